import PyProof.Rows.All
import Wide.All
import OpenK.AllK
import Wide.FinOn
import HandS.Words
import HandS.HeadHook2
import HandS.ForMost
import HandS.Evl
import HandS.Deep
import HandS.TupAny
import HandS.Conv
import HandS.Style
import KE.KeyNested
import HandS.SortInts
import HandS.IsInst
import HandS.WideBits
import KE.SortKeyHeap
import HandS.SortKw
import HandS.RaiseMore
import PyProof.ReprRoads
import PyProof.ReprLen
import HandS.TryOnly
import HandS.Defaults
import HandS.Iter
import KE.KDictPairs
import KE.KDictKeyed
import KE.GoesMore
import PyProof.EnumMake
import HandS.SetFor
import HandS.Strs
import OpenK.KMore
import HandS.Ends
import HandS.HeadEnd
import KE.KStateDown
import Lean
import HandS.Base
import HandS.Call
import HandS.More
import HandS.WordsExc
import HandS.Head0
import HandS.Head1
import HandS.Head2
import HandS.HeadHook1
import PySem.Challenge.RW_forktold_k55_whole_distance
set_option Elab.async false
set_option linter.all false
set_option maxRecDepth 100000
namespace Fk
open PySem L2
def top (i : Nat) : Stmt := PySem.Challenge.pw_forktold_k55_whole_distance.main.body.getD i (.Pass ⟨0, 0, 0, 0⟩)
abbrev s_bits_of : Stmt := top 9
abbrev s_lot_of : Stmt := top 10
abbrev s_lot_key : Stmt := top 11
abbrev s_bits_key : Stmt := top 12
abbrev s_ordered_bits : Stmt := top 13
abbrev s_all_bits : Stmt := top 14
abbrev s_least_leaf : Stmt := top 15
abbrev s_is_tip : Stmt := top 16
abbrev s_in_order : Stmt := top 17
abbrev s_tree_of_bits : Stmt := top 19
abbrev s_nest_bits : Stmt := top 21
abbrev s_parts_of_bits : Stmt := top 22
abbrev s_fork_bits : Stmt := top 23
abbrev s_parts : Stmt := top 24
abbrev s_fork : Stmt := top 25
abbrev s_bits_at : Stmt := top 26
abbrev s_at : Stmt := top 27
abbrev s_without : Stmt := top 28
abbrev s_need_alike_size : Stmt := top 30
abbrev s_nests_and_tips : Stmt := top 32
abbrev s_parts_or_none : Stmt := top 33
abbrev s_greatest_sum : Stmt := top 34
abbrev s_pair_number : Stmt := top 35
abbrev s_table_numbers : Stmt := top 36
abbrev s_agreement_table : Stmt := top 37
abbrev s_distance : Stmt := top 38
abbrev s_is_within : Stmt := top 40
abbrev s_joined : Stmt := top 41
abbrev s_less : Stmt := top 42
abbrev s_stands_in : Stmt := top 43
abbrev s_with_nests : Stmt := top 44
abbrev s_put_in : Stmt := top 45
abbrev s_need_forked : Stmt := top 46
abbrev s_nests_left : Stmt := top 47
abbrev s_cut_and_put : Stmt := top 48
abbrev s_is_map : Stmt := top 50
abbrev s_renamed : Stmt := top 51
abbrev s__law_store : Stmt := top 53
abbrev s__law_draw : Stmt := top 54
abbrev s__law_pick : Stmt := top 55
abbrev s__law_line : Stmt := top 56
abbrev s__law_rank : Stmt := top 57
abbrev s__law_tree : Stmt := top 58
abbrev s__law_crosses : Stmt := top 59
abbrev s__law_named : Stmt := top 60
abbrev s__law_some : Stmt := top 61
abbrev s__law_near : Stmt := top 62
abbrev s__law_world : Stmt := top 63
abbrev s__law_lots : Stmt := top 64
abbrev s__law_cut : Stmt := top 65
abbrev s__law_good : Stmt := top 66
abbrev s__law_far : Stmt := top 67
abbrev s__law_by_three : Stmt := top 68
abbrev s__law_by_less : Stmt := top 69
abbrev s__law_by_more : Stmt := top 70
abbrev s__law_by_parts : Stmt := top 71
abbrev s__law_by_cut : Stmt := top 72
abbrev s__law_by_names : Stmt := top 73
abbrev s_law : Stmt := top 74
def d_bits_of : He.DefD := ⟨("bits_of", none), "bits_of", "bits_of", defArgs s_bits_of, defBody s_bits_of, defScope s_bits_of, [], []⟩
def d_lot_of : He.DefD := ⟨("lot_of", none), "lot_of", "lot_of", defArgs s_lot_of, defBody s_lot_of, defScope s_lot_of, [], []⟩
def d_lot_key : He.DefD := ⟨("lot_key", none), "lot_key", "lot_key", defArgs s_lot_key, defBody s_lot_key, defScope s_lot_key, [], []⟩
def d_bits_key : He.DefD := ⟨("bits_key", none), "bits_key", "bits_key", defArgs s_bits_key, defBody s_bits_key, defScope s_bits_key, [], []⟩
def d_ordered_bits : He.DefD := ⟨("ordered_bits", none), "ordered_bits", "ordered_bits", defArgs s_ordered_bits, defBody s_ordered_bits, defScope s_ordered_bits, [], []⟩
def d_all_bits : He.DefD := ⟨("all_bits", none), "all_bits", "all_bits", defArgs s_all_bits, defBody s_all_bits, defScope s_all_bits, [], []⟩
def d_least_leaf : He.DefD := ⟨("least_leaf", none), "least_leaf", "least_leaf", defArgs s_least_leaf, defBody s_least_leaf, defScope s_least_leaf, [], []⟩
def d_is_tip : He.DefD := ⟨("is_tip", none), "is_tip", "is_tip", defArgs s_is_tip, defBody s_is_tip, defScope s_is_tip, [], []⟩
def d_in_order : He.DefD := ⟨("in_order", none), "in_order", "in_order", defArgs s_in_order, defBody s_in_order, defScope s_in_order, [], []⟩
def d_tree_of_bits : He.DefD := ⟨("tree_of_bits", none), "tree_of_bits", "tree_of_bits", defArgs s_tree_of_bits, defBody s_tree_of_bits, defScope s_tree_of_bits, [], []⟩
def d_nest_bits : He.DefD := ⟨("nest_bits", none), "nest_bits", "nest_bits", defArgs s_nest_bits, defBody s_nest_bits, defScope s_nest_bits, [], []⟩
def d_parts_of_bits : He.DefD := ⟨("parts_of_bits", none), "parts_of_bits", "parts_of_bits", defArgs s_parts_of_bits, defBody s_parts_of_bits, defScope s_parts_of_bits, [], []⟩
def d_fork_bits : He.DefD := ⟨("fork_bits", none), "fork_bits", "fork_bits", defArgs s_fork_bits, defBody s_fork_bits, defScope s_fork_bits, [], []⟩
def d_parts : He.DefD := ⟨("parts", none), "parts", "parts", defArgs s_parts, defBody s_parts, defScope s_parts, [], []⟩
def d_fork : He.DefD := ⟨("fork", none), "fork", "fork", defArgs s_fork, defBody s_fork, defScope s_fork, [], []⟩
def d_bits_at : He.DefD := ⟨("bits_at", none), "bits_at", "bits_at", defArgs s_bits_at, defBody s_bits_at, defScope s_bits_at, [], []⟩
def d_at : He.DefD := ⟨("at", none), "at", "at", defArgs s_at, defBody s_at, defScope s_at, [], []⟩
def d_without : He.DefD := ⟨("without", none), "without", "without", defArgs s_without, defBody s_without, defScope s_without, [], []⟩
def d_need_alike_size : He.DefD := ⟨("need_alike_size", none), "need_alike_size", "need_alike_size", defArgs s_need_alike_size, defBody s_need_alike_size, defScope s_need_alike_size, [], []⟩
def d_nests_and_tips : He.DefD := ⟨("nests_and_tips", none), "nests_and_tips", "nests_and_tips", defArgs s_nests_and_tips, defBody s_nests_and_tips, defScope s_nests_and_tips, [], []⟩
def d_parts_or_none : He.DefD := ⟨("parts_or_none", none), "parts_or_none", "parts_or_none", defArgs s_parts_or_none, defBody s_parts_or_none, defScope s_parts_or_none, [], []⟩
def d_greatest_sum : He.DefD := ⟨("greatest_sum", none), "greatest_sum", "greatest_sum", defArgs s_greatest_sum, defBody s_greatest_sum, defScope s_greatest_sum, [], []⟩
def d_pair_number : He.DefD := ⟨("pair_number", none), "pair_number", "pair_number", defArgs s_pair_number, defBody s_pair_number, defScope s_pair_number, [], []⟩
def d_table_numbers : He.DefD := ⟨("table_numbers", none), "table_numbers", "table_numbers", defArgs s_table_numbers, defBody s_table_numbers, defScope s_table_numbers, [], []⟩
def d_agreement_table : He.DefD := ⟨("agreement_table", none), "agreement_table", "agreement_table", defArgs s_agreement_table, defBody s_agreement_table, defScope s_agreement_table, [], []⟩
def d_distance : He.DefD := ⟨("distance", none), "distance", "distance", defArgs s_distance, defBody s_distance, defScope s_distance, [], []⟩
def d_is_within : He.DefD := ⟨("is_within", none), "is_within", "is_within", defArgs s_is_within, defBody s_is_within, defScope s_is_within, [], []⟩
def d_joined : He.DefD := ⟨("joined", none), "joined", "joined", defArgs s_joined, defBody s_joined, defScope s_joined, [], []⟩
def d_less : He.DefD := ⟨("less", none), "less", "less", defArgs s_less, defBody s_less, defScope s_less, [], []⟩
def d_stands_in : He.DefD := ⟨("stands_in", none), "stands_in", "stands_in", defArgs s_stands_in, defBody s_stands_in, defScope s_stands_in, [], []⟩
def d_with_nests : He.DefD := ⟨("with_nests", none), "with_nests", "with_nests", defArgs s_with_nests, defBody s_with_nests, defScope s_with_nests, [], []⟩
def d_put_in : He.DefD := ⟨("put_in", none), "put_in", "put_in", defArgs s_put_in, defBody s_put_in, defScope s_put_in, [], []⟩
def d_need_forked : He.DefD := ⟨("need_forked", none), "need_forked", "need_forked", defArgs s_need_forked, defBody s_need_forked, defScope s_need_forked, [], []⟩
def d_nests_left : He.DefD := ⟨("nests_left", none), "nests_left", "nests_left", defArgs s_nests_left, defBody s_nests_left, defScope s_nests_left, [], []⟩
def d_cut_and_put : He.DefD := ⟨("cut_and_put", none), "cut_and_put", "cut_and_put", defArgs s_cut_and_put, defBody s_cut_and_put, defScope s_cut_and_put, [], []⟩
def d_is_map : He.DefD := ⟨("is_map", none), "is_map", "is_map", defArgs s_is_map, defBody s_is_map, defScope s_is_map, [], []⟩
def d_renamed : He.DefD := ⟨("renamed", none), "renamed", "renamed", defArgs s_renamed, defBody s_renamed, defScope s_renamed, [], []⟩
def d__law_store : He.DefD := ⟨("_law_store", none), "_law_store", "_law_store", defArgs s__law_store, defBody s__law_store, defScope s__law_store, [], []⟩
def d__law_draw : He.DefD := ⟨("_law_draw", none), "_law_draw", "_law_draw", defArgs s__law_draw, defBody s__law_draw, defScope s__law_draw, [], []⟩
def d__law_pick : He.DefD := ⟨("_law_pick", none), "_law_pick", "_law_pick", defArgs s__law_pick, defBody s__law_pick, defScope s__law_pick, [], []⟩
def d__law_line : He.DefD := ⟨("_law_line", none), "_law_line", "_law_line", defArgs s__law_line, defBody s__law_line, defScope s__law_line, [], []⟩
def d__law_rank : He.DefD := ⟨("_law_rank", none), "_law_rank", "_law_rank", defArgs s__law_rank, defBody s__law_rank, defScope s__law_rank, [], []⟩
def d__law_tree : He.DefD := ⟨("_law_tree", none), "_law_tree", "_law_tree", defArgs s__law_tree, defBody s__law_tree, defScope s__law_tree, [], []⟩
def d__law_crosses : He.DefD := ⟨("_law_crosses", none), "_law_crosses", "_law_crosses", defArgs s__law_crosses, defBody s__law_crosses, defScope s__law_crosses, [], []⟩
def d__law_named : He.DefD := ⟨("_law_named", none), "_law_named", "_law_named", defArgs s__law_named, defBody s__law_named, defScope s__law_named, [], []⟩
def d__law_some : He.DefD := ⟨("_law_some", none), "_law_some", "_law_some", defArgs s__law_some, defBody s__law_some, defScope s__law_some, [], []⟩
def d__law_near : He.DefD := ⟨("_law_near", none), "_law_near", "_law_near", defArgs s__law_near, defBody s__law_near, defScope s__law_near, [], []⟩
def d__law_world : He.DefD := ⟨("_law_world", none), "_law_world", "_law_world", defArgs s__law_world, defBody s__law_world, defScope s__law_world, [], []⟩
def d__law_lots : He.DefD := ⟨("_law_lots", none), "_law_lots", "_law_lots", defArgs s__law_lots, defBody s__law_lots, defScope s__law_lots, [], []⟩
def d__law_cut : He.DefD := ⟨("_law_cut", none), "_law_cut", "_law_cut", defArgs s__law_cut, defBody s__law_cut, defScope s__law_cut, [], []⟩
def d__law_good : He.DefD := ⟨("_law_good", none), "_law_good", "_law_good", defArgs s__law_good, defBody s__law_good, defScope s__law_good, [], []⟩
def d__law_far : He.DefD := ⟨("_law_far", none), "_law_far", "_law_far", defArgs s__law_far, defBody s__law_far, defScope s__law_far, [], []⟩
def d__law_by_three : He.DefD := ⟨("_law_by_three", none), "_law_by_three", "_law_by_three", defArgs s__law_by_three, defBody s__law_by_three, defScope s__law_by_three, [], []⟩
def d__law_by_less : He.DefD := ⟨("_law_by_less", none), "_law_by_less", "_law_by_less", defArgs s__law_by_less, defBody s__law_by_less, defScope s__law_by_less, [], []⟩
def d__law_by_more : He.DefD := ⟨("_law_by_more", none), "_law_by_more", "_law_by_more", defArgs s__law_by_more, defBody s__law_by_more, defScope s__law_by_more, [], []⟩
def d__law_by_parts : He.DefD := ⟨("_law_by_parts", none), "_law_by_parts", "_law_by_parts", defArgs s__law_by_parts, defBody s__law_by_parts, defScope s__law_by_parts, [], []⟩
def d__law_by_cut : He.DefD := ⟨("_law_by_cut", none), "_law_by_cut", "_law_by_cut", defArgs s__law_by_cut, defBody s__law_by_cut, defScope s__law_by_cut, [], []⟩
def d__law_by_names : He.DefD := ⟨("_law_by_names", none), "_law_by_names", "_law_by_names", defArgs s__law_by_names, defBody s__law_by_names, defScope s__law_by_names, [], []⟩
def d_law : He.DefD := ⟨("law", none), "law", "law", defArgs s_law, defBody s_law, defScope s_law, [], []⟩
def fns : List He.DefD := [d_bits_of, d_lot_of, d_lot_key, d_bits_key, d_ordered_bits, d_all_bits, d_least_leaf, d_is_tip, d_in_order, d_tree_of_bits, d_nest_bits, d_parts_of_bits, d_fork_bits, d_parts, d_fork, d_bits_at, d_at, d_without, d_need_alike_size, d_nests_and_tips, d_parts_or_none, d_greatest_sum, d_pair_number, d_table_numbers, d_agreement_table, d_distance, d_is_within, d_joined, d_less, d_stands_in, d_with_nests, d_put_in, d_need_forked, d_nests_left, d_cut_and_put, d_is_map, d_renamed, d__law_store, d__law_draw, d__law_pick, d__law_line, d__law_rank, d__law_tree, d__law_crosses, d__law_named, d__law_some, d__law_near, d__law_world, d__law_lots, d__law_cut, d__law_good, d__law_far, d__law_by_three, d__law_by_less, d__law_by_more, d__law_by_parts, d__law_by_cut, d__law_by_names, d_law]
def fas : List He.Fa := [.glo "bits_of", .glo "lot_of", .glo "lot_key", .glo "bits_key", .glo "ordered_bits", .glo "all_bits", .glo "least_leaf", .glo "is_tip", .glo "in_order", .glo "tree_of_bits", .glo "nest_bits", .glo "parts_of_bits", .glo "fork_bits", .glo "parts", .glo "fork", .glo "bits_at", .glo "at", .glo "without", .glo "need_alike_size", .glo "nests_and_tips", .glo "parts_or_none", .glo "greatest_sum", .glo "pair_number", .glo "table_numbers", .glo "agreement_table", .glo "distance", .glo "is_within", .glo "joined", .glo "less", .glo "stands_in", .glo "with_nests", .glo "put_in", .glo "need_forked", .glo "nests_left", .glo "cut_and_put", .glo "is_map", .glo "renamed", .glo "_law_store", .glo "_law_draw", .glo "_law_pick", .glo "_law_line", .glo "_law_rank", .glo "_law_tree", .glo "_law_crosses", .glo "_law_named", .glo "_law_some", .glo "_law_near", .glo "_law_world", .glo "_law_lots", .glo "_law_cut", .glo "_law_good", .glo "_law_far", .glo "_law_by_three", .glo "_law_by_less", .glo "_law_by_more", .glo "_law_by_parts", .glo "_law_by_cut", .glo "_law_by_names", .glo "law", .free "all", .free "bool", .free "dict", .free "enumerate", .free "int", .free "isinstance", .free "len", .free "list", .free "max", .free "min", .free "range", .free "repr", .free "set", .free "sorted", .free "sum", .free "tuple", .int "MAX_LEAVES" 9]
end Fk
set_option maxHeartbeats 4000000
namespace Fk
open PySem L2

abbrev Ex : Hp → Hp → Prop := Evl.Ex

/-! ### data without lists -/
mutual
def noL : PyData → Bool
  | .none => true
  | .bool _ => true
  | .int _ => true
  | .str _ => true
  | .tuple ds => noLs ds
  | .list _ => false
  | .dict _ => false
def noLs : List PyData → Bool
  | [] => true
  | d :: ds => noL d && noLs ds
end
theorem noLs_iff : ∀ {ds : List PyData}, noLs ds = true ↔ ∀ d ∈ ds, noL d = true
  | [] => by simp [noLs]
  | d :: ds => by simp [noLs, noLs_iff (ds := ds)]

section
variable {K : PySem.W.Frag} {B H H' : Hp}

mutual
theorem dp_ex (e : Ex H H') : ∀ (d : PyData) (v : V), Dp K H v d → Dp K H' v d
  | .none, _, h => by cases h; exact .non
  | .bool b, _, h => by cases h; exact .bl b
  | .int i, _, h => by cases h; exact .int i
  | .str x, _, h => by cases h; exact .str x
  | .list ds, _, h => by
    cases h with
    | lst h1 h2 => exact .lst (Evl.ex_l e h1) (dps_ex e ds _ h2)
  | .tuple ds, _, h => by
    cases h with
    | tup h1 h2 => exact .tup (Evl.ex_t e h1) (dps_ex e ds _ h2)
  | .dict _, _, h => by cases h
theorem dps_ex (e : Ex H H') : ∀ (ds : List PyData) (vs : List V), DpAll K H vs ds → DpAll K H' vs ds
  | [], _, h => by cases h; exact .nil
  | d :: ds, _, h => by
    cases h with
    | cons h1 h2 => exact .cons (dp_ex e d _ h1) (dps_ex e ds _ h2)
end

/-- the tuples are as they were -/
def TX (H H' : Hp) : Prop := ∀ a xs, Rd H a (.tup xs) → Rd H' a (.tup xs)
theorem TX.refl : TX H H := fun _ _ h => h
theorem TX.trans {H1 : Hp} (a : TX H H1) (b : TX H1 H') : TX H H' := fun x xs h => b x xs (a x xs h)
theorem TX.of (e : Ex H H') : TX H H' := fun _ _ h => Evl.ex_rd e h
theorem TX.sq (e : TX H H') {a : Addr} {xs : List V} (h : SqT K H a xs) : SqT K H' a xs := by
  rcases h with h | h
  · exact .inl (e a xs h)
  · exact .inr h
def isT : HO → Bool
  | .tup _ => true
  | .frz _ u => isT u
  | _ => false
theorem TX.upd {p : Addr} {o u : HO} (h : H p = some u) (hu : isT u = false) : TX H (upd H p o) := fun a xs r => by
  have ne : a ≠ p := by
    rintro rfl
    rcases r with r | ⟨ob, r⟩
    · rw [h] at r; cases r; simp [isT] at hu
    · rw [h] at r; cases r; simp [isT] at hu
  unfold Rd
  rw [upd_ne ne]
  exact r
mutual
theorem dp_tx (e : TX H H') : ∀ (d : PyData) (v : V), noL d = true → Dp K H v d → Dp K H' v d
  | .none, _, _, h => by cases h; exact .non
  | .bool b, _, _, h => by cases h; exact .bl b
  | .int i, _, _, h => by cases h; exact .int i
  | .str x, _, _, h => by cases h; exact .str x
  | .list ds, _, n, h => by simp [noL] at n
  | .tuple ds, _, n, h => by
    cases h with
    | tup h1 h2 => exact .tup (e.sq h1) (dps_tx e ds _ (by simpa [noL] using n) h2)
  | .dict _, _, _, h => by cases h
theorem dps_tx (e : TX H H') : ∀ (ds : List PyData) (vs : List V), noLs ds = true → DpAll K H vs ds → DpAll K H' vs ds
  | [], _, _, h => by cases h; exact .nil
  | d :: ds, _, n, h => by
    have n' : noL d = true ∧ noLs ds = true := by simpa [noLs] using n
    cases h with
    | cons h1 h2 => exact .cons (dp_tx e d _ n'.1 h1) (dps_tx e ds _ n'.2 h2)
end
theorem dps_len : ∀ {vs : List V} {ds : List PyData}, DpAll K H vs ds → vs.length = ds.length
  | _, [], h => by cases h; rfl
  | _, d :: ds, h => by
    cases h with
    | cons h1 h2 => simp [dps_len h2]
theorem dps_get : ∀ {vs : List V} {ds : List PyData} {i : Nat} {v : V}, DpAll K H vs ds → vs[i]? = some v → ∃ d, ds[i]? = some d ∧ Dp K H v d
  | _, [], i, v, h, e => by cases h; simp at e
  | _, d :: ds, 0, v, h, e => by
    cases h with
    | cons h1 h2 =>
      simp at e; subst e
      exact ⟨d, rfl, h1⟩
  | _, d :: ds, i + 1, v, h, e => by
    cases h with
    | cons h1 h2 =>
      obtain ⟨d', e', h'⟩ := dps_get (i := i) h2 (by simpa using e)
      exact ⟨d', by simpa using e', h'⟩
theorem dps_getD : ∀ {vs : List V} {ds : List PyData} {i : Nat} {d : PyData}, DpAll K H vs ds → ds[i]? = some d → ∃ v, vs[i]? = some v ∧ Dp K H v d
  | _, [], i, v, h, e => by simp at e
  | _, d :: ds, 0, v, h, e => by
    cases h with
    | cons h1 h2 =>
      simp at e; subst e
      exact ⟨_, rfl, h1⟩
  | _, d :: ds, i + 1, v, h, e => by
    cases h with
    | cons h1 h2 =>
      obtain ⟨d', e', h'⟩ := dps_getD (i := i) h2 (by simpa using e)
      exact ⟨d', by simpa using e', h'⟩
theorem dps_app : ∀ {vs ws : List V} {ds es : List PyData}, DpAll K H vs ds → DpAll K H ws es → DpAll K H (vs ++ ws) (ds ++ es)
  | _, _, [], _, h, h' => by cases h; exact h'
  | _, _, d :: ds, _, h, h' => by
    cases h with
    | cons h1 h2 => exact .cons h1 (dps_app h2 h')
theorem dps_take : ∀ (n : Nat) {vs : List V} {ds : List PyData}, DpAll K H vs ds → DpAll K H (vs.take n) (ds.take n)
  | 0, _, _, _ => by simp; exact .nil
  | n + 1, _, [], h => by cases h; simp; exact .nil
  | n + 1, _, d :: ds, h => by
    cases h with
    | cons h1 h2 => simp only [List.take_succ_cons]; exact .cons h1 (dps_take n h2)
theorem dps_drop : ∀ (n : Nat) {vs : List V} {ds : List PyData}, DpAll K H vs ds → DpAll K H (vs.drop n) (ds.drop n)
  | 0, _, _, h => by simpa using h
  | n + 1, _, [], h => by cases h; simp; exact .nil
  | n + 1, _, d :: ds, h => by
    cases h with
    | cons h1 h2 => simp only [List.drop_succ_cons]; exact dps_drop n h2
theorem dps_ints : ∀ {vs : List V} {ns : List Int}, DpAll K H vs (ns.map .int) → vs = ns.map V.int
  | _, [], h => by cases h; rfl
  | _, n :: ns, h => by
    rw [List.map_cons] at h
    cases h with
    | cons h1 h2 =>
      cases h1
      rw [dps_ints h2]; rfl
theorem dps_of_ints : ∀ (ns : List Int), DpAll K H (ns.map V.int) (ns.map .int)
  | [] => .nil
  | n :: ns => .cons (.int n) (dps_of_ints ns)
theorem dps_bls : ∀ {vs : List V} {ns : List Bool}, DpAll K H vs (ns.map .bool) → vs = ns.map V.bl
  | _, [], h => by cases h; rfl
  | _, n :: ns, h => by
    rw [List.map_cons] at h
    cases h with
    | cons h1 h2 =>
      cases h1
      rw [dps_bls h2]; rfl
theorem dp_int {v : V} {i : Int} (h : Dp K H v (.int i)) : v = .int i := by cases h; rfl
theorem dp_bl {v : V} {b : Bool} (h : Dp K H v (.bool b)) : v = .bl b := by cases h; rfl
theorem dp_str {v : V} {b : Str} (h : Dp K H v (.str b)) : v = .str b := by cases h; rfl
end

/-! ### dicts whose keys are tuples of tuples of ints -/
mutual
def keyN : PyData → NestedKey
  | .int i => .num i
  | .tuple ds => .tup (keyNs ds)
  | .none => .none
  | .bool _ => .none
  | .str _ => .none
  | .list _ => .none
  | .dict _ => .none
def keyNs : List PyData → List NestedKey
  | [] => []
  | d :: ds => keyN d :: keyNs ds
end
mutual
/-- ints, tuples of these -/
def itD : PyData → Bool
  | .int _ => true
  | .tuple ds => itDs ds
  | .none => false
  | .bool _ => false
  | .str _ => false
  | .list _ => false
  | .dict _ => false
def itDs : List PyData → Bool
  | [] => true
  | d :: ds => itD d && itDs ds
end
mutual
theorem itD_noL : ∀ d : PyData, itD d = true → noL d = true
  | .int _, _ => rfl
  | .tuple ds, h => by
    have := itDs_noL ds (by simpa [itD] using h)
    simpa [noL] using this
  | .none, _ => rfl
  | .bool _, _ => rfl
  | .str _, _ => rfl
  | .list _, h => by simp [itD] at h
  | .dict _, h => by simp [itD] at h
theorem itDs_noL : ∀ ds : List PyData, itDs ds = true → noLs ds = true
  | [], _ => rfl
  | d :: ds, h => by
    have h : itD d = true ∧ itDs ds = true := by simpa [itDs] using h
    simp [noLs, itD_noL d h.1, itDs_noL ds h.2]
end
mutual
theorem keyN_inj : ∀ x y : PyData, itD x = true → itD y = true → keyN x = keyN y → x = y
  | .int i, y, _, hy, e => by
    cases y <;> simp_all [keyN, itD]
  | .tuple ds, y, hx, hy, e => by
    cases y with
    | tuple es =>
      simp only [keyN, NestedKey.tup.injEq] at e
      rw [keyNs_inj ds es (by simpa [itD] using hx) (by simpa [itD] using hy) e]
    | int j => simp [keyN] at e
    | none => simp [itD] at hy
    | bool _ => simp [itD] at hy
    | str _ => simp [itD] at hy
    | list _ => simp [itD] at hy
    | dict _ => simp [itD] at hy
  | .none, _, h, _, _ => by simp [itD] at h
  | .bool _, _, h, _, _ => by simp [itD] at h
  | .str _, _, h, _, _ => by simp [itD] at h
  | .list _, _, h, _, _ => by simp [itD] at h
  | .dict _, _, h, _, _ => by simp [itD] at h
theorem keyNs_inj : ∀ x y : List PyData, itDs x = true → itDs y = true → keyNs x = keyNs y → x = y
  | [], [], _, _, _ => rfl
  | [], _ :: _, _, _, e => by simp [keyNs] at e
  | _ :: _, [], _, _, e => by simp [keyNs] at e
  | a :: as, b :: bs, hx, hy, e => by
    have hx : itD a = true ∧ itDs as = true := by simpa [itDs] using hx
    have hy : itD b = true ∧ itDs bs = true := by simpa [itDs] using hy
    simp only [keyNs, List.cons.injEq] at e
    rw [keyN_inj a b hx.1 hy.1 e.1, keyNs_inj as bs hx.2 hy.2 e.2]
end
/-- such a key -/
def keyOk (d : PyData) : Bool := (match d with | .tuple _ => true | _ => false) && itD d && decide ((keyN d).depth ≤ 8)
/-- a number or a truth value -/
def PV : PyData → Value → Prop
  | .int i, u => ∃ t, u = .int i t
  | .bool b, u => u = .bool b
  | _, _ => False
/-- such a dict, by its object alone -/
def dHO (P : Program) (w : World) (p : Addr) (xs : List (NestedKey × Addr × Value)) (ep : Nat) : HO := .ext fun h => xs.length ≤ sizeLine ∧ (p == sysModules) = false ∧ ∃ o es, h.get? p = some o ∧ o.ExactDict ∧ o.data = .dict es ep ∧ es.toList = xs.map (entryOfKey (nestedKind P w)) ∧ (xs.map (·.1)).Nodup
def KE (K : PySem.W.Frag) (H : Hp) (e : PyData × PyData) (x : NestedKey × Addr × Value) : Prop := x.1 = keyN e.1 ∧ keyOk e.1 = true ∧ Dp K H (.ref x.2.1) e.1 ∧ PV e.2 x.2.2
theorem keyOk_it {d : PyData} (h : keyOk d = true) : itD d = true := by
  unfold keyOk at h
  rw [Bool.and_eq_true, Bool.and_eq_true] at h
  exact h.1.2
theorem keyOk_depth {d : PyData} (h : keyOk d = true) : (keyN d).depth ≤ 8 := by
  unfold keyOk at h
  rw [Bool.and_eq_true] at h
  exact of_decide_eq_true h.2
section
variable {K : PySem.W.Frag} {H H' : Hp}
theorem KE.tx (e : TX H H') {a : PyData × PyData} {x : NestedKey × Addr × Value} (h : KE K H a x) : KE K H' a x := ⟨h.1, h.2.1, dp_tx e _ _ (itD_noL _ (keyOk_it h.2.1)) h.2.2.1, h.2.2.2⟩
end

/-! ### what is known of the slots -/
inductive Sl where
  | un
  | d (d : PyData)
  | l (p : Addr) (ds : List PyData)
  | o (p : Addr) (h : HO)
  | r (p : Addr)
  | t (d : PyData)
  | k (p : Addr) (P : Program) (w : World) (es : List (PyData × PyData))
section
variable (K : PySem.W.Frag) (B H : Hp)
def SlotOk : Option V → Sl → Prop
  | _, .un => True
  | o, .d d => ∃ v, o = some v ∧ (Dp K B v d ∨ (noL d = true ∧ Dp K H v d))
  | o, .l p ds => o = some (.ref p) ∧ ∃ vs, H p = some (.lst vs) ∧ DpAll K H vs ds ∧ noLs ds = true
  | o, .o p h => o = some (.ref p) ∧ H p = some h
  | o, .r p => o = some (.ref p)
  | o, .t d => ∃ v, o = some v ∧ Dp K H v d
  | o, .k p P w es => o = some (.ref p) ∧ ∃ xs ep, H p = some (dHO P w p xs ep) ∧ Paired (KE K H) es xs
def EnvOk : St → List Sl → Prop
  | [], [] => True
  | o :: σ, s :: ρ => SlotOk K B H o s ∧ EnvOk σ ρ
  | _, _ => False
end
def wipeS (ρ : List Sl) : List Nat → List Sl
  | [] => ρ
  | v :: vs => (wipeS ρ vs).set v .un
section
variable {K : PySem.W.Frag} {B H H' : Hp} {σ : St} {ρ : List Sl}
theorem SlotOk.ex {o : Option V} {s : Sl} (e : Ex H H') (h : SlotOk K B H o s) : SlotOk K B H' o s := by
  cases s with
  | un => trivial
  | d d =>
    obtain ⟨v, e1, h1⟩ := h
    exact ⟨v, e1, h1.imp id fun z => ⟨z.1, dp_ex e _ _ z.2⟩⟩
  | l p ds =>
    obtain ⟨e1, vs, h1, h2, h3⟩ := h
    exact ⟨e1, vs, e _ _ h1, dps_ex e _ _ h2, h3⟩
  | o p u => exact ⟨h.1, e _ _ h.2⟩
  | r p => exact h
  | t d =>
    obtain ⟨v, e1, h1⟩ := h
    exact ⟨v, e1, dp_ex e _ _ h1⟩
  | k p P w es =>
    obtain ⟨e1, xs, ep, h1, h2⟩ := h
    exact ⟨e1, xs, ep, e _ _ h1, Paired.mapP h2 fun _ _ z => z.tx (TX.of e)⟩
theorem EnvOk.ex (e : Ex H H') : ∀ {σ : St} {ρ : List Sl}, EnvOk K B H σ ρ → EnvOk K B H' σ ρ
  | [], [], _ => trivial
  | _ :: _, _ :: _, h => ⟨h.1.ex e, h.2.ex e⟩
  | [], _ :: _, h => h.elim
  | _ :: _, [], h => h.elim
theorem EnvOk.len : ∀ {σ : St} {ρ : List Sl}, EnvOk K B H σ ρ → σ.length = ρ.length
  | [], [], _ => rfl
  | _ :: _, _ :: _, h => by simp [h.2.len]
  | [], _ :: _, h => h.elim
  | _ :: _, [], h => h.elim
theorem EnvOk.at : ∀ {σ : St} {ρ : List Sl} {i : Nat} {s : Sl}, EnvOk K B H σ ρ → ρ[i]? = some s → ∃ o, σ[i]? = some o ∧ SlotOk K B H o s
  | [], [], i, s, _, e => by simp at e
  | o :: _, _ :: _, 0, s, h, e => by simp at e; subst e; exact ⟨o, rfl, h.1⟩
  | _ :: _, _ :: _, i + 1, s, h, e => by
    obtain ⟨o, e1, h1⟩ := h.2.at (i := i) (s := s) (by simpa using e)
    exact ⟨o, by simpa using e1, h1⟩
  | [], _ :: _, _, _, h, _ => h.elim
  | _ :: _, [], _, _, h, _ => h.elim
theorem EnvOk.set {o : Option V} {s : Sl} (hs : SlotOk K B H o s) : ∀ {σ : St} {ρ : List Sl} (i : Nat), EnvOk K B H σ ρ → EnvOk K B H (σ.set i o) (ρ.set i s)
  | [], [], _, _ => trivial
  | _ :: _, _ :: _, 0, h => ⟨hs, h.2⟩
  | _ :: _, _ :: _, i + 1, h => ⟨h.1, h.2.set hs i⟩
  | [], _ :: _, _, h => h.elim
  | _ :: _, [], _, h => h.elim
theorem EnvOk.wipe : ∀ (vs : List Nat) {σ : St} {ρ : List Sl}, EnvOk K B H σ ρ → EnvOk K B H (wipe σ vs) (wipeS ρ vs)
  | [], _, _, h => h
  | v :: vs, _, _, h => (EnvOk.wipe vs h).set (o := none) (s := .un) trivial v
theorem EnvOk.d {i : Nat} {d : PyData} (eb : Ex B H) (h : EnvOk K B H σ ρ) (e : ρ[i]? = some (.d d)) : ∃ v, σ[i]? = some (some v) ∧ Dp K H v d := by
  obtain ⟨o, e1, v, rfl, h1⟩ := h.at e
  refine ⟨v, e1, ?_⟩
  rcases h1 with h1 | h1
  · exact dp_ex eb _ _ h1
  · exact h1.2
theorem EnvOk.l {i : Nat} {p : Addr} {ds : List PyData} (h : EnvOk K B H σ ρ) (e : ρ[i]? = some (.l p ds)) : σ[i]? = some (some (.ref p)) ∧ ∃ vs, H p = some (.lst vs) ∧ DpAll K H vs ds ∧ noLs ds = true := by
  obtain ⟨o, e1, rfl, h1⟩ := h.at e
  exact ⟨e1, h1⟩
theorem EnvOk.o {i : Nat} {p : Addr} {u : HO} (h : EnvOk K B H σ ρ) (e : ρ[i]? = some (.o p u)) : σ[i]? = some (some (.ref p)) ∧ H p = some u := by
  obtain ⟨o, e1, rfl, h1⟩ := h.at e
  exact ⟨e1, h1⟩
theorem EnvOk.r {i : Nat} {p : Addr} (h : EnvOk K B H σ ρ) (e : ρ[i]? = some (.r p)) : σ[i]? = some (some (.ref p)) := by
  obtain ⟨o, e1, rfl⟩ := h.at e
  exact e1
theorem EnvOk.t {i : Nat} {d : PyData} (h : EnvOk K B H σ ρ) (e : ρ[i]? = some (.t d)) : ∃ v, σ[i]? = some (some v) ∧ Dp K H v d := by
  obtain ⟨o, e1, v, rfl, h1⟩ := h.at e
  exact ⟨v, e1, h1⟩
theorem EnvOk.k {i : Nat} {p : Addr} {P : Program} {w : World} {es : List (PyData × PyData)} (h : EnvOk K B H σ ρ) (e : ρ[i]? = some (.k p P w es)) : σ[i]? = some (some (.ref p)) ∧ ∃ xs ep, H p = some (dHO P w p xs ep) ∧ Paired (KE K H) es xs := by
  obtain ⟨o, e1, rfl, h1⟩ := h.at e
  exact ⟨e1, h1⟩
/-- data with a list stand in what is fixed -/
theorem EnvOk.b {i : Nat} {d : PyData} (h : EnvOk K B H σ ρ) (e : ρ[i]? = some (.d d)) (n : noL d = false) : ∃ v, σ[i]? = some (some v) ∧ Dp K B v d := by
  obtain ⟨o, e1, v, rfl, h1⟩ := h.at e
  rcases h1 with h1 | h1
  · exact ⟨v, e1, h1⟩
  · rw [n] at h1; cases h1.1
/-- an object that is changed -/
def putL (p : Addr) (s' : Sl) : Sl → Sl
  | .un => .un
  | .d d => .d d
  | .l q ds => if q = p then s' else .l q ds
  | .o q u => if q = p then s' else .o q u
  | .r q => .r q
  | .t d => if noL d = true then .t d else .un
  | .k q P w es => if q = p then s' else .k q P w es
theorem EnvOk.upd {p : Addr} {u o : HO} {s' : Sl} (hp : H p = some u) (hu : isT u = false) (hB : B p = none) (hs : SlotOk K B (upd H p o) (some (.ref p)) s') : ∀ {σ : St} {ρ : List Sl}, EnvOk K B H σ ρ → EnvOk K B (upd H p o) σ (ρ.map (putL p s'))
  | [], [], _ => trivial
  | x :: _, s :: _, h => by
    refine ⟨?_, EnvOk.upd hp hu hB hs h.2⟩
    have h1 := h.1
    have tx : TX H (L2.upd H p o) := TX.upd hp hu
    cases s with
    | un => trivial
    | d d =>
      obtain ⟨v, e1, h1⟩ := h1
      exact ⟨v, e1, h1.imp id fun z => ⟨z.1, dp_tx tx _ _ z.1 z.2⟩⟩
    | l q ds =>
      obtain ⟨e1, vs, h1, h2, h3⟩ := h1
      show SlotOk K B _ x (if q = p then s' else .l q ds)
      by_cases hq : q = p
      · rw [if_pos hq, e1, hq]; exact hs
      · rw [if_neg hq]
        exact ⟨e1, vs, by rw [upd_ne hq]; exact h1, dps_tx tx _ _ h3 h2, h3⟩
    | o q w =>
      obtain ⟨e1, h1⟩ := h1
      show SlotOk K B _ x (if q = p then s' else .o q w)
      by_cases hq : q = p
      · rw [if_pos hq, e1, hq]; exact hs
      · rw [if_neg hq]
        exact ⟨e1, by rw [upd_ne hq]; exact h1⟩
    | r q => exact h1
    | t d =>
      obtain ⟨v, e1, h1⟩ := h1
      show SlotOk K B _ x (if noL d = true then .t d else .un)
      by_cases hq : noL d = true
      · rw [if_pos hq]; exact ⟨v, e1, dp_tx tx _ _ hq h1⟩
      · rw [if_neg hq]; trivial
    | k q P w es =>
      obtain ⟨e1, xs, ep, h1, h2⟩ := h1
      show SlotOk K B _ x (if q = p then s' else .k q P w es)
      by_cases hq : q = p
      · rw [if_pos hq, e1, hq]; exact hs
      · rw [if_neg hq]
        exact ⟨e1, xs, ep, by rw [upd_ne hq]; exact h1, Paired.mapP h2 fun _ _ z => z.tx tx⟩
  | [], _ :: _, h => h.elim
  | _ :: _, [], h => h.elim
def startS (N : List Str) (ds : List PyData) : List Sl := ds.map .d ++ List.replicate (N.length - ds.length) .un
theorem env_start {N : List Str} {vs : List V} {ds : List PyData} (h : DpAll K H vs ds) : EnvOk K H H (L2.start N vs) (startS N ds) := by
  have hl := dps_len h
  have rep : ∀ n, EnvOk K H H (List.replicate n none) (List.replicate n .un) := fun n => by
    induction n with
    | zero => exact trivial
    | succ n ih => exact ⟨trivial, ih⟩
  unfold L2.start startS
  rw [hl]
  generalize N.length - ds.length = n
  clear hl
  induction ds generalizing vs with
  | nil => cases h; exact rep n
  | cons d ds ih =>
    cases h with
    | cons h1 h2 => exact ⟨⟨_, rfl, .inl h1⟩, ih h2⟩
end

/-! ### what is evaluated -/
section
variable (K : PySem.W.Frag) (B : Hp)
def EvD (te : TE) (ρ : List Sl) (d : PyData) : Prop := ∀ σ H, Ex B H → EnvOk K B H σ ρ → ∀ Q : VK, (∀ v H2, Ex H H2 → Dp K H2 v d → Q v H2) → te σ H Q
/-- a new list -/
def EvL (te : TE) (ρ : List Sl) (ds : List PyData) : Prop := ∀ σ H, Ex B H → EnvOk K B H σ ρ → ∀ Q : VK, (∀ p vs H2, Ex H H2 → H p = none → H2 p = some (.lst vs) → DpAll K H2 vs ds → Q (.ref p) H2) → te σ H Q
def EvT (tt : TT) (ρ : List Sl) (b : Bool) : Prop := ∀ σ H, Ex B H → EnvOk K B H σ ρ → ∀ Q : Bool → Hp → Prop, (∀ H2, Ex H H2 → Q b H2) → tt σ H Q
def EvA (ta : TA) (ρ : List Sl) (ds : List PyData) : Prop := ∀ σ H, Ex B H → EnvOk K B H σ ρ → ∀ Q : List V → Hp → Prop, (∀ vs H2, Ex H H2 → DpAll K H2 vs ds → Q vs H2) → ta σ H Q
def EvO (to : TO) (ρ : List Sl) (o : Option Int) : Prop := ∀ σ H, Ex B H → EnvOk K B H σ ρ → ∀ Q : Option Int → Hp → Prop, (∀ H2, Ex H H2 → Q o H2) → to σ H Q
/-- operations by values -/
def RD (r : R2) (x y z : PyData) : Prop := ∀ v u H, Dp K H v x → Dp K H u y → ∀ Q : VK, (∀ w H2, Ex H H2 → Dp K H2 w z → Q w H2) → r v u H Q
def RDL (r : R2) (x y : PyData) (zs : List PyData) : Prop := ∀ v u H, Dp K H v x → Dp K H u y → ∀ Q : VK, (∀ p vs H2, Ex H H2 → H p = none → H2 p = some (.lst vs) → DpAll K H2 vs zs → Q (.ref p) H2) → r v u H Q
def RU (r : V → Hp → VK → Prop) (x z : PyData) : Prop := ∀ v H, Dp K H v x → ∀ Q : VK, (∀ w H2, Ex H H2 → Dp K H2 w z → Q w H2) → r v H Q
def RC (r : List V → Hp → VK → Prop) (xs : List PyData) (z : PyData) : Prop := ∀ vs H, DpAll K H vs xs → ∀ Q : VK, (∀ w H2, Ex H H2 → Dp K H2 w z → Q w H2) → r vs H Q
def RCL (r : List V → Hp → VK → Prop) (xs : List PyData) (zs : List PyData) : Prop := ∀ vs H, DpAll K H vs xs → ∀ Q : VK, (∀ p ws H2, Ex H H2 → H p = none → H2 p = some (.lst ws) → DpAll K H2 ws zs → Q (.ref p) H2) → r vs H Q
end
end Fk
namespace Fk
open PySem L2
section
variable {K : PySem.W.Frag} {B : Hp} {ρ : List Sl} {ta tb te tl : TE} {t u : TT} {x y z d : PyData} {r : R2}

theorem Ex.tr {a b c : Hp} (h : Ex a b) (k : Ex b c) : Ex a c := Evl.Ex.trans h k
theorem Ex.rf {a : Hp} : Ex a a := Evl.Ex.refl a

/-! ### names, constants -/
theorem ed_var {i : Nat} (h : ρ[i]? = some (.d d)) : EvD K B (tVar i) ρ d := fun σ H eb ok Q q => by
  obtain ⟨v, e, hv⟩ := ok.d eb h
  exact ⟨v, e, q v H Ex.rf hv⟩
theorem ed_varL {i : Nat} {p : Addr} {ds : List PyData} (h : ρ[i]? = some (.l p ds)) : EvD K B (tVar i) ρ (.list ds) := fun σ H eb ok Q q => by
  obtain ⟨e, vs, h1, h2, h3⟩ := ok.l h
  exact ⟨_, e, q _ H Ex.rf (.lst (SqL.of h1) h2)⟩
theorem ed_int {i : Int} : EvD K B (tC (.int i)) ρ (.int i) := fun σ H eb ok Q q => q _ H Ex.rf (.int i)
theorem ed_bl {b : Bool} : EvD K B (tC (.bl b)) ρ (.bool b) := fun σ H eb ok Q q => q _ H Ex.rf (.bl b)
theorem ed_str {x : Str} : EvD K B (tC (.str x)) ρ (.str x) := fun σ H eb ok Q q => q _ H Ex.rf (.str x)
theorem ed_is {d' : PyData} (h : EvD K B te ρ d') (e : d' = d) : EvD K B te ρ d := e ▸ h
theorem et_is {b b' : Bool} (h : EvT K B t ρ b') (e : b' = b) : EvT K B t ρ b := e ▸ h
theorem ed_L {ds : List PyData} (h : EvL K B te ρ ds) : EvD K B te ρ (.list ds) := fun σ H eb ok Q q => h σ H eb ok Q fun p vs H2 e hp h2 h3 => q _ H2 e (.lst (SqL.of h2) h3)
theorem el_is {ds ds' : List PyData} (h : EvL K B te ρ ds') (e : ds' = ds) : EvL K B te ρ ds := e ▸ h

/-! ### arguments, displays -/
theorem ea_nil : EvA K B tNil ρ [] := fun σ H eb ok Q q => q [] H Ex.rf .nil
theorem ea_cons {tr : TA} {ds : List PyData} (h : EvD K B te ρ d) (hr : EvA K B tr ρ ds) : EvA K B (tCons te tr) ρ (d :: ds) := fun σ H eb ok Q q =>
  h σ H eb ok _ fun v H1 e1 h1 => hr σ H1 (eb.tr e1) (ok.ex e1) _ fun vs H2 e2 h2 => q (v :: vs) H2 (e1.tr e2) (.cons (dp_ex e2 _ _ h1) h2)
theorem sz_of {n : Nat} (h : n ≤ 100000) : n ≤ sizeLine := Evl.sz_of h
theorem ed_tup {ta : TA} {ds : List PyData} (h : EvA K B ta ρ ds) (hl : ds.length ≤ 100000) : EvD K B (tTup ta) ρ (.tuple ds) := fun σ H eb ok Q q =>
  h σ H eb ok _ fun vs H1 e1 h1 => ⟨sz_of (by rw [dps_len h1]; exact hl), fun p hp => q _ _ (e1.tr (Evl.Ex.new hp)) (.tup (SqT.of upd_same) (dps_ex (Evl.Ex.new hp) _ _ h1))⟩
theorem el_lst {ta : TA} {ds : List PyData} (h : EvA K B ta ρ ds) (hl : ds.length ≤ 100000) : EvL K B (tLst ta) ρ ds := fun σ H eb ok Q q =>
  h σ H eb ok _ fun vs H1 e1 h1 => ⟨sz_of (by rw [dps_len h1]; exact hl), fun p hp => q p vs _ (e1.tr (Evl.Ex.new hp)) (Evl.fresh_back e1 hp) upd_same (dps_ex (Evl.Ex.new hp) _ _ h1)⟩

/-! ### operations -/
theorem ed_op (ha : EvD K B ta ρ x) (hb : EvD K B tb ρ y) (hr : RD K r x y z) : EvD K B (tOp r ta tb) ρ z := fun σ H eb ok Q q =>
  ha σ H eb ok _ fun v H1 e1 h1 => hb σ H1 (eb.tr e1) (ok.ex e1) _ fun w H2 e2 h2 => hr v w H2 (dp_ex e2 _ _ h1) h2 Q fun a H3 e3 h3 => q a H3 ((e1.tr e2).tr e3) h3
theorem el_op {zs : List PyData} (ha : EvD K B ta ρ x) (hb : EvD K B tb ρ y) (hr : RDL K r x y zs) : EvL K B (tOp r ta tb) ρ zs := fun σ H eb ok Q q =>
  ha σ H eb ok _ fun v H1 e1 h1 => hb σ H1 (eb.tr e1) (ok.ex e1) _ fun w H2 e2 h2 => hr v w H2 (dp_ex e2 _ _ h1) h2 Q fun a vs H3 e3 hp h3 h4 => q a vs H3 ((e1.tr e2).tr e3) (Evl.fresh_back (e1.tr e2) hp) h3 h4
theorem ed_un {r : V → Hp → VK → Prop} (ha : EvD K B ta ρ x) (hr : RU K r x z) : EvD K B (tUn r ta) ρ z := fun σ H eb ok Q q =>
  ha σ H eb ok _ fun v H1 e1 h1 => hr v H1 h1 Q fun w H2 e2 h2 => q w H2 (e1.tr e2) h2
theorem ed_cb {r : List V → Hp → VK → Prop} {ta : TA} {xs : List PyData} (ha : EvA K B ta ρ xs) (hr : RC K r xs z) : EvD K B (tCB r ta) ρ z := fun σ H eb ok Q q =>
  ha σ H eb ok _ fun vs H1 e1 h1 => hr vs H1 h1 Q fun w H2 e2 h2 => q w H2 (e1.tr e2) h2
theorem el_cb {r : List V → Hp → VK → Prop} {ta : TA} {xs zs : List PyData} (ha : EvA K B ta ρ xs) (hr : RCL K r xs zs) : EvL K B (tCB r ta) ρ zs := fun σ H eb ok Q q =>
  ha σ H eb ok _ fun vs H1 e1 h1 => hr vs H1 h1 Q fun p ws H2 e2 hp h2 h3 => q p ws H2 (e1.tr e2) (Evl.fresh_back e1 hp) h2 h3

theorem rd_I0 {g : Int → Int → V} {i j : Int} {z : PyData} (hz : ∀ H, Dp K H (g i j) z) : RD K (rI0 g) (.int i) (.int j) z := fun v u H h1 h2 Q q => by
  obtain rfl := dp_int h1
  obtain rfl := dp_int h2
  exact ⟨i, j, rfl, rfl, q _ H Ex.rf (hz H)⟩
theorem rd_I {C : Int → Int → Prop} {g : Int → Int → V} {i j : Int} {z : PyData} (hc : C i j) (hz : ∀ H, Dp K H (g i j) z) : RD K (rI C g) (.int i) (.int j) z := fun v u H h1 h2 Q q => by
  obtain rfl := dp_int h1
  obtain rfl := dp_int h2
  exact ⟨i, j, rfl, rfl, hc, q _ H Ex.rf (hz H)⟩
variable {i j : Int} {a b : Nat}
theorem rd_add : RD K (rI0 fun i j => .int (i + j)) (.int i) (.int j) (.int (i + j)) := rd_I0 fun _ => .int _
theorem rd_sub : RD K (rI0 fun i j => .int (i - j)) (.int i) (.int j) (.int (i - j)) := rd_I0 fun _ => .int _
theorem rd_lt : RD K (rI0 fun i j => .bl (decide (i < j))) (.int i) (.int j) (.bool (decide (i < j))) := rd_I0 fun _ => .bl _
theorem rd_le : RD K (rI0 fun i j => .bl (decide (i ≤ j))) (.int i) (.int j) (.bool (decide (i ≤ j))) := rd_I0 fun _ => .bl _
theorem rd_gt : RD K (rI0 fun i j => .bl (decide (j < i))) (.int i) (.int j) (.bool (decide (j < i))) := rd_I0 fun _ => .bl _
theorem rd_ge : RD K (rI0 fun i j => .bl (decide (j ≤ i))) (.int i) (.int j) (.bool (decide (j ≤ i))) := rd_I0 fun _ => .bl _
theorem and_nat : Builtin.bitAnd (a : Int) (b : Int) = ((a &&& b : Nat) : Int) := by
  rw [PyProof.Rows.bitAnd_pp (by omega) (by omega), Int.toNat_natCast, Int.toNat_natCast]
theorem or_nat : Builtin.bitOr (a : Int) (b : Int) = ((a ||| b : Nat) : Int) := by
  rw [Bits.bitOr_pp (by omega) (by omega), Int.toNat_natCast, Int.toNat_natCast]
theorem xor_nat : Builtin.bitXor (a : Int) (b : Int) = ((a ^^^ b : Nat) : Int) := by
  rw [Bits.bitXor_pp (by omega) (by omega), Int.toNat_natCast, Int.toNat_natCast]
theorem rd_and : RD K (rI0 fun i j => .int (Builtin.bitAnd i j)) (.int (a : Int)) (.int (b : Int)) (.int ((a &&& b : Nat) : Int)) := rd_I0 fun _ => by rw [and_nat]; exact .int _
theorem rd_or : RD K (rI0 fun i j => .int (Builtin.bitOr i j)) (.int (a : Int)) (.int (b : Int)) (.int ((a ||| b : Nat) : Int)) := rd_I0 fun _ => by rw [or_nat]; exact .int _
theorem rd_xor : RD K (rI0 fun i j => .int (Builtin.bitXor i j)) (.int (a : Int)) (.int (b : Int)) (.int ((a ^^^ b : Nat) : Int)) := rd_I0 fun _ => by rw [xor_nat]; exact .int _
theorem rd_shl (h : a < 2 ^ 60 ∧ b ≤ 1000) : RD K (rI CPow fun i j => .int (i * 2 ^ j.toNat)) (.int (a : Int)) (.int (b : Int)) (.int ((a <<< b : Nat) : Int)) := rd_I ⟨by omega, by omega, by omega⟩ fun _ => by
  have e : ((a : Int) * 2 ^ ((b : Int)).toNat) = ((a <<< b : Nat) : Int) := by
    rw [Int.toNat_natCast, Nat.shiftLeft_eq, Int.natCast_mul, Int.natCast_pow]; rfl
  rw [e]; exact .int _
theorem rd_shr : RD K (rI (fun _ j => 0 ≤ j) fun i j => .int (i / 2 ^ j.toNat)) (.int (a : Int)) (.int (b : Int)) (.int ((a >>> b : Nat) : Int)) := rd_I (by omega) fun _ => by
  have e : ((a : Int) / 2 ^ ((b : Int)).toNat) = ((a >>> b : Nat) : Int) := by
    rw [Int.toNat_natCast, Nat.shiftRight_eq_div_pow, Int.natCast_ediv, Int.natCast_pow]; rfl
  rw [e]; exact .int _
theorem rd_mulR (h : -(2 ^ 64) < j ∧ j < 2 ^ 64) : RD K (rI CMul fun i j => .int (i * j)) (.int i) (.int j) (.int (i * j)) := rd_I (.inr h) fun _ => .int _
theorem rd_mulL (h : -(2 ^ 64) < i ∧ i < 2 ^ 64) : RD K (rI CMul fun i j => .int (i * j)) (.int i) (.int j) (.int (i * j)) := rd_I (.inl h) fun _ => .int _
theorem rd_mod (h : 0 < j) : RD K (rI (fun _ j => 0 < j) fun i j => .int (i % j)) (.int i) (.int j) (.int (i % j)) := rd_I h fun _ => .int _
theorem rd_fdiv (h : CDiv i j) : RD K (rI CDiv fun i j => .int (i / j)) (.int i) (.int j) (.int (i / j)) := rd_I h fun _ => .int _
theorem rd_pow (h : CPow i j) : RD K (rI CPow fun i j => .int (i ^ j.toNat)) (.int i) (.int j) (.int (i ^ j.toNat)) := rd_I h fun _ => .int _
theorem ru_neg : RU K (L2.rU fun i => .int (-i)) (.int i) (.int (-i)) := fun v H h Q q => by
  obtain rfl := dp_int h
  exact ⟨i, rfl, q _ H Ex.rf (.int _)⟩
/-! == and != at any depth -/
theorem shaped_int (i : Int) : SeqAt.shaped (.int i) = true := by simp [SeqAt.shaped, PyData.canLay0, PyData.depth]
theorem rd_eq (hx : SeqAt.shaped x = true) (hy : SeqAt.shaped y = true) : RD K (rEqD K) x y (.bool (PyData.eqv x y)) := fun v u H h1 h2 Q q => ⟨x, y, h1, h2, hx, hy, q _ H Ex.rf (.bl _)⟩
theorem rd_ne (hx : SeqAt.shaped x = true) (hy : SeqAt.shaped y = true) : RD K (rNeD K) x y (.bool (!PyData.eqv x y)) := fun v u H h1 h2 Q q => ⟨x, y, h1, h2, hx, hy, q _ H Ex.rf (.bl _)⟩
theorem rd_eqI : RD K (rEqD K) (.int i) (.int j) (.bool (decide (i = j))) := fun v u H h1 h2 Q q => ⟨.int i, .int j, h1, h2, shaped_int i, shaped_int j, q _ H Ex.rf (by
  have e : PyData.eqv (.int i) (.int j) = decide (i = j) := by simp only [PyData.eqv]; exact Bool.beq_eq_decide_eq i j
  rw [e]; exact .bl _)⟩
theorem rd_neI : RD K (rNeD K) (.int i) (.int j) (.bool (!decide (i = j))) := fun v u H h1 h2 Q q => ⟨.int i, .int j, h1, h2, shaped_int i, shaped_int j, q _ H Ex.rf (by
  have e : PyData.eqv (.int i) (.int j) = decide (i = j) := by simp only [PyData.eqv]; exact Bool.beq_eq_decide_eq i j
  rw [e]; exact .bl _)⟩
/-! in, not in: a tuple, a list of data -/
def rInA (K : PySem.W.Frag) : R2 := fun x y H Q => ∃ d ds, Dp K H x d ∧ (Dp K H y (.list ds) ∨ Dp K H y (.tuple ds)) ∧ SeqAt.shaped d = true ∧ SeqAt.shaped (.list ds) = true ∧ Q (.bl (ds.any fun z => PyData.eqv z d)) H
def rNiA (K : PySem.W.Frag) : R2 := fun x y H Q => ∃ d ds, Dp K H x d ∧ (Dp K H y (.list ds) ∨ Dp K H y (.tuple ds)) ∧ SeqAt.shaped d = true ∧ SeqAt.shaped (.list ds) = true ∧ Q (.bl (!ds.any fun z => PyData.eqv z d)) H
theorem shaped_lt {ds : List PyData} (h : SeqAt.shaped (.list ds) = true) : PyData.canLayAll0 ds = true := by
  have h := SeqAt.canLay_of_shaped h
  simpa [PyData.canLay0] using h
theorem op_inA {X : Cx} (hu : X.A.units + 65 < cLine) : OpR X (compareOp .In) (rInA X.K) := by
  intro pins s σ H x y v u Q I rx ry h
  obtain ⟨d, ds, hd, he, sd, se, q⟩ := h
  obtain ⟨as, r1⟩ := Dp.reads I d x v hd rx
  rcases he with he | he
  · obtain ⟨bs, r2⟩ := Dp.reads I (.list ds) y u he ry
    exact SeqAt.in_list_reads r2 r1 (SeqAt.canLay_of_shaped se) (SeqAt.canLay_of_shaped sd) (PyProof.Rows.room_in_shaped sd hu) ⟨.bl _, H, I, rfl, q⟩
  · obtain ⟨bs, r2⟩ := Dp.reads I (.tuple ds) y u he ry
    exact SeqAt.in_tuple_reads r2 r1 (shaped_lt se) (SeqAt.canLay_of_shaped sd) (PyProof.Rows.room_in_shaped sd hu) ⟨.bl _, H, I, rfl, q⟩
theorem op_niA {X : Cx} (hu : X.A.units + 65 < cLine) : OpR X (compareOp .NotIn) (rNiA X.K) := by
  intro pins s σ H x y v u Q I rx ry h
  obtain ⟨d, ds, hd, he, sd, se, q⟩ := h
  obtain ⟨as, r1⟩ := Dp.reads I d x v hd rx
  rcases he with he | he
  · obtain ⟨bs, r2⟩ := Dp.reads I (.list ds) y u he ry
    exact SeqAt.notIn_list_reads r2 r1 (SeqAt.canLay_of_shaped se) (SeqAt.canLay_of_shaped sd) (PyProof.Rows.room_in_shaped sd hu) ⟨.bl _, H, I, rfl, q⟩
  · obtain ⟨bs, r2⟩ := Dp.reads I (.tuple ds) y u he ry
    exact SeqAt.notIn_tuple_reads r2 r1 (shaped_lt se) (SeqAt.canLay_of_shaped sd) (PyProof.Rows.room_in_shaped sd hu) ⟨.bl _, H, I, rfl, q⟩
variable {ds es : List PyData}
theorem rd_inT (hx : SeqAt.shaped x = true) (hy : SeqAt.shaped (.list ds) = true) : RD K (rInA K) x (.tuple ds) (.bool (ds.any fun z => PyData.eqv z x)) := fun v u H h1 h2 Q q => ⟨x, ds, h1, .inr h2, hx, hy, q _ H Ex.rf (.bl _)⟩
theorem rd_inL (hx : SeqAt.shaped x = true) (hy : SeqAt.shaped (.list ds) = true) : RD K (rInA K) x (.list ds) (.bool (ds.any fun z => PyData.eqv z x)) := fun v u H h1 h2 Q q => ⟨x, ds, h1, .inl h2, hx, hy, q _ H Ex.rf (.bl _)⟩
theorem rd_niT (hx : SeqAt.shaped x = true) (hy : SeqAt.shaped (.list ds) = true) : RD K (rNiA K) x (.tuple ds) (.bool (!ds.any fun z => PyData.eqv z x)) := fun v u H h1 h2 Q q => ⟨x, ds, h1, .inr h2, hx, hy, q _ H Ex.rf (.bl _)⟩
theorem rd_niL (hx : SeqAt.shaped x = true) (hy : SeqAt.shaped (.list ds) = true) : RD K (rNiA K) x (.list ds) (.bool (!ds.any fun z => PyData.eqv z x)) := fun v u H h1 h2 Q q => ⟨x, ds, h1, .inl h2, hx, hy, q _ H Ex.rf (.bl _)⟩
/-! items, +, slices -/
theorem dp_tup {H : Hp} {v : V} {ds : List PyData} (h : Dp K H v (.tuple ds)) : ∃ a xs, v = .ref a ∧ SqT K H a xs ∧ DpAll K H xs ds := by
  cases h with
  | tup h1 h2 => exact ⟨_, _, rfl, h1, h2⟩
theorem dp_lst {H : Hp} {v : V} {ds : List PyData} (h : Dp K H v (.list ds)) : ∃ a xs, v = .ref a ∧ SqL K H a xs ∧ DpAll K H xs ds := by
  cases h with
  | lst h1 h2 => exact ⟨_, _, rfl, h1, h2⟩
theorem atI_dps {H : Hp} {xs : List V} {i : Int} (h : DpAll K H xs ds) (e : atI ds i = some z) : ∃ v, atI xs i = some v ∧ Dp K H v z := by
  unfold atI at e ⊢
  rw [dps_len h]
  cases q : ixN ds.length i with
  | none => rw [q] at e; simp at e
  | some j =>
    rw [q] at e
    exact dps_getD h e
theorem rd_ixT (e : atI ds i = some z) : RD K (rIxT K) (.tuple ds) (.int i) z := fun v u H h1 h2 Q q => by
  obtain ⟨a, xs, rfl, hs, ha⟩ := dp_tup h1
  obtain rfl := dp_int h2
  obtain ⟨w, e1, hw⟩ := atI_dps ha e
  exact ⟨a, xs, i, w, rfl, rfl, hs, e1, q w H Ex.rf hw⟩
theorem rd_ixL (e : atI ds i = some z) : RD K (rIxL K) (.list ds) (.int i) z := fun v u H h1 h2 Q q => by
  obtain ⟨a, xs, rfl, hs, ha⟩ := dp_lst h1
  obtain rfl := dp_int h2
  obtain ⟨w, e1, hw⟩ := atI_dps ha e
  exact ⟨a, xs, i, w, rfl, rfl, hs, e1, q w H Ex.rf hw⟩
theorem rd_catT (hl : ds.length + es.length ≤ 100000) : RD K (rCatA K) (.tuple ds) (.tuple es) (.tuple (ds ++ es)) := fun v u H h1 h2 Q q => by
  obtain ⟨a, xs, rfl, hs, ha⟩ := dp_tup h1
  obtain ⟨b, ys, rfl, ht, hb⟩ := dp_tup h2
  refine ⟨a, b, xs, ys, rfl, rfl, hs, ht, sz_of (by rw [dps_len ha, dps_len hb]; exact hl), fun e => ?_, fun _ e => ?_, fun _ _ p hp => ?_⟩
  · subst e
    cases ds with
    | cons d ds => cases ha
    | nil => exact q _ H Ex.rf h2
  · subst e
    cases es with
    | cons d ds => cases hb
    | nil => rw [List.append_nil] at q; exact q _ H Ex.rf h1
  · exact q _ _ (Evl.Ex.new hp) (.tup (SqT.of upd_same) (dps_ex (Evl.Ex.new hp) _ _ (dps_app ha hb)))
/-- list + list: the two tracked -/
theorem sqL_or {H : Hp} {a : Addr} {xs : List V} (h : H a = some (.lst xs)) : SqL K H a xs := SqL.of h
def cutD (ds : List PyData) (lo hi : Option Int) : List PyData := (ds.drop (HT.sIx ds.length 0 lo)).take (HT.sIx ds.length ds.length hi - HT.sIx ds.length 0 lo)
theorem cut_dps {H : Hp} {xs : List V} {lo hi : Option Int} (h : DpAll K H xs ds) : DpAll K H (cutV xs lo hi) (cutD ds lo hi) := by
  unfold cutV cutD
  rw [dps_len h]
  exact dps_take _ (dps_drop _ h)
theorem eo_none : EvO K B tNoPart ρ none := fun σ H eb ok Q q => q H Ex.rf
theorem eo_some {i : Int} (h : EvD K B te ρ (.int i)) : EvO K B (tPart te) ρ (some i) := fun σ H eb ok Q q => h σ H eb ok _ fun v H1 e1 h1 => ⟨i, dp_int h1, q H1 e1⟩
theorem ed_slT {tl th : TO} {lo hi : Option Int} (h : EvD K B te ρ (.tuple ds)) (h1 : EvO K B tl ρ lo) (h2 : EvO K B th ρ hi) : EvD K B (tSl (rSlA K) te tl th) ρ (.tuple (cutD ds lo hi)) := fun σ H eb ok Q q =>
  h σ H eb ok _ fun v H1 e1 k1 => h1 σ H1 (eb.tr e1) (ok.ex e1) _ fun H2 e2 => h2 σ H2 ((eb.tr e1).tr e2) ((ok.ex e1).ex e2) _ fun H3 e3 => by
    have k3 := dp_ex (e2.tr e3) _ _ k1
    obtain ⟨a, xs, rfl, hs, ha⟩ := dp_tup k3
    refine ⟨a, xs, rfl, hs, fun hw => ?_, fun hw p hp => ?_⟩
    · refine q _ H3 ((e1.tr e2).tr e3) ?_
      rw [dps_len ha] at hw
      have e : cutD ds lo hi = ds := by
        unfold cutD
        rw [hw.1, hw.2]
        simp
      rw [e]; exact k3
    · exact q _ _ (((e1.tr e2).tr e3).tr (Evl.Ex.new hp)) (.tup (SqT.of upd_same) (dps_ex (Evl.Ex.new hp) _ _ (cut_dps ha)))
theorem el_slL {tl th : TO} {lo hi : Option Int} (h : EvD K B te ρ (.list ds)) (h1 : EvO K B tl ρ lo) (h2 : EvO K B th ρ hi) : EvL K B (tSl (rSlL K) te tl th) ρ (cutD ds lo hi) := fun σ H eb ok Q q =>
  h σ H eb ok _ fun v H1 e1 k1 => h1 σ H1 (eb.tr e1) (ok.ex e1) _ fun H2 e2 => h2 σ H2 ((eb.tr e1).tr e2) ((ok.ex e1).ex e2) _ fun H3 e3 => by
    have k3 := dp_ex (e2.tr e3) _ _ k1
    obtain ⟨a, xs, rfl, hs, ha⟩ := dp_lst k3
    exact ⟨a, xs, rfl, hs, fun p hp => q p _ _ (((e1.tr e2).tr e3).tr (Evl.Ex.new hp)) (Evl.fresh_back ((e1.tr e2).tr e3) hp) upd_same (dps_ex (Evl.Ex.new hp) _ _ (cut_dps ha))⟩

/-! ### tests -/
theorem et_test {b : Bool} (h : EvD K B te ρ (.bool b)) : EvT K B (tTest te) ρ b := fun σ H eb ok Q q => h σ H eb ok _ fun v H1 e1 h1 => ⟨b, dp_bl h1, q H1 e1⟩
theorem et_B {b : Bool} (h : EvD K B te ρ (.bool b)) : EvT K B (tB te) ρ b := fun σ H eb ok Q q => h σ H eb ok _ fun v H1 e1 h1 => ⟨b, dp_bl h1, q H1 e1⟩
theorem et_not {b : Bool} (h : EvT K B t ρ b) : EvT K B (tNot t) ρ (!b) := fun σ H eb ok Q q => h σ H eb ok _ fun H1 e1 => q H1 e1
theorem et_and {a b : Bool} (h1 : EvT K B t ρ a) (h2 : a = true → EvT K B u ρ b) : EvT K B (tAnd t u) ρ (a && b) := fun σ H eb ok Q q => h1 σ H eb ok _ fun H1 e1 => by
  cases a with
  | true =>
    show u σ H1 Q
    exact h2 rfl σ H1 (eb.tr e1) (ok.ex e1) Q fun H2 e2 => q H2 (e1.tr e2)
  | false =>
    show Q false H1
    exact q H1 e1
theorem et_or {a b : Bool} (h1 : EvT K B t ρ a) (h2 : a = false → EvT K B u ρ b) : EvT K B (tOr t u) ρ (a || b) := fun σ H eb ok Q q => h1 σ H eb ok _ fun H1 e1 => by
  cases a with
  | true =>
    show Q true H1
    exact q H1 e1
  | false =>
    show u σ H1 Q
    exact h2 rfl σ H1 (eb.tr e1) (ok.ex e1) Q fun H2 e2 => q H2 (e1.tr e2)
theorem ed_andV {a b : Bool} (h1 : EvD K B ta ρ (.bool a)) (h2 : a = true → EvD K B tb ρ (.bool b)) : EvD K B (tAndV ta tb) ρ (.bool (a && b)) := fun σ H eb ok Q q => h1 σ H eb ok _ fun v H1 e1 k1 => ⟨a, dp_bl k1, by
  cases a with
  | true =>
    show tb σ H1 Q
    exact h2 rfl σ H1 (eb.tr e1) (ok.ex e1) Q fun w H2 e2 => q w H2 (e1.tr e2)
  | false =>
    show Q (.bl false) H1
    exact q _ H1 e1 (.bl false)⟩
theorem ed_orV {a b : Bool} (h1 : EvD K B ta ρ (.bool a)) (h2 : a = false → EvD K B tb ρ (.bool b)) : EvD K B (tOrV ta tb) ρ (.bool (a || b)) := fun σ H eb ok Q q => h1 σ H eb ok _ fun v H1 e1 k1 => ⟨a, dp_bl k1, by
  cases a with
  | true =>
    show Q (.bl true) H1
    exact q _ H1 e1 (.bl true)
  | false =>
    show tb σ H1 Q
    exact h2 rfl σ H1 (eb.tr e1) (ok.ex e1) Q fun w H2 e2 => q w H2 (e1.tr e2)⟩
theorem ed_notV {a : Bool} (h1 : EvD K B ta ρ (.bool a)) : EvD K B (tNotV ta) ρ (.bool (!a)) := fun σ H eb ok Q q => h1 σ H eb ok _ fun v H1 e1 k1 => ⟨a, dp_bl k1, q _ H1 e1 (.bl _)⟩
theorem ed_if {b : Bool} (h : EvT K B t ρ b) (h1 : b = true → EvD K B ta ρ d) (h2 : b = false → EvD K B tb ρ d) : EvD K B (tIf t ta tb) ρ d := fun σ H eb ok Q q => h σ H eb ok _ fun H1 e1 => by
  cases b with
  | true =>
    show ta σ H1 Q
    exact h1 rfl σ H1 (eb.tr e1) (ok.ex e1) Q fun w H2 e2 => q w H2 (e1.tr e2)
  | false =>
    show tb σ H1 Q
    exact h2 rfl σ H1 (eb.tr e1) (ok.ex e1) Q fun w H2 e2 => q w H2 (e1.tr e2)
theorem el_if {b : Bool} (h : EvT K B t ρ b) (h1 : b = true → EvL K B ta ρ ds) (h2 : b = false → EvL K B tb ρ ds) : EvL K B (tIf t ta tb) ρ ds := fun σ H eb ok Q q => h σ H eb ok _ fun H1 e1 => by
  cases b with
  | true =>
    show ta σ H1 Q
    exact h1 rfl σ H1 (eb.tr e1) (ok.ex e1) Q fun p vs H2 e2 hp => q p vs H2 (e1.tr e2) (Evl.fresh_back e1 hp)
  | false =>
    show tb σ H1 Q
    exact h2 rfl σ H1 (eb.tr e1) (ok.ex e1) Q fun p vs H2 e2 hp => q p vs H2 (e1.tr e2) (Evl.fresh_back e1 hp)
end
end Fk
namespace Fk
open PySem L2
section
variable {K : PySem.W.Frag} {B : Hp} {ρ : List Sl} {ta tb te tl : TE} {t u : TT} {x y z d : PyData} {r : R2} {ds es : List PyData}

/-! ### comprehensions -/
theorem et_yes : EvT K B tYes ρ true := fun σ H eb ok Q q => q H Ex.rf
theorem wipe1 {σ : St} {j : Nat} (o : Option V) : wipe ((wipe σ [j]).set j o) [j] = wipe σ [j] := by
  show ((σ.set j none).set j o).set j none = σ.set j none
  rw [List.set_set, List.set_set]
theorem wipe1s {σ : St} {j : Nat} (o : Option V) : (wipe σ [j]).set j o = σ.set j o := by
  show (σ.set j none).set j o = σ.set j o
  rw [List.set_set]
/-- the new list so far -/
def Acc (K : PySem.W.Frag) (H1 : Hp) (D : Addr) (out : List PyData) (H : Hp) : Prop := H1 D = none ∧ Ex H1 H ∧ ∃ acc, H D = some (.lst acc) ∧ DpAll K H acc out
theorem acc0 {H1 : Hp} {D : Addr} (h : H1 D = none) : Acc K H1 D [] (upd H1 D (.lst [])) := ⟨h, Evl.Ex.new h, [], upd_same, .nil⟩
theorem acc_put {H1 H3 H4 : Hp} {D : Addr} {out : List PyData} {v : V} (h : Acc K H1 D out H3) (e : Ex H3 H4) (hv : Dp K H4 v d) (nd : noL d = true) (no : noLs out = true) (hl : out.length < 100000) {Nx : Hp → Prop} (q : ∀ H, Acc K H1 D (out ++ [d]) H → Nx H) :
    ∃ acc, H4 D = some (.lst acc) ∧ acc.length < sizeLine ∧ Nx (upd H4 D (.lst (acc ++ [v]))) := by
  obtain ⟨h0, h1, acc, h2, h3⟩ := h
  have h2' := e D _ h2
  have h3' := dps_ex e _ _ h3
  refine ⟨acc, h2', Evl.sz_lt (by rw [dps_len h3]; exact hl), q _ ⟨h0, Evl.Ex.mut (h1.tr e) h0, acc ++ [v], upd_same, ?_⟩⟩
  have tx : TX H4 (upd H4 D (.lst (acc ++ [v]))) := TX.upd h2' rfl
  exact dps_app (dps_tx tx _ _ no h3') (.cons (dp_tx tx _ _ nd hv) .nil)
theorem take_succ_map {α : Type} {xs : List α} {i : Nat} {a : α} (h : xs[i]? = some a) (keep : α → Bool) (f : α → PyData) :
    (((xs.take (i + 1)).filter keep).map f) = (((xs.take i).filter keep).map f) ++ (if keep a = true then [f a] else []) := by
  rw [List.take_add_one, h, List.filter_append, List.map_append]
  congr 1
  show (List.filter keep [a]).map f = _
  rw [List.filter_cons]
  split <;> rfl
theorem noLs_map {α : Type} {xs : List α} {f : α → PyData} (h : ∀ a ∈ xs, noL (f a) = true) : noLs (xs.map f) = true := by
  rw [noLs_iff]
  intro d hd
  obtain ⟨a, ha, rfl⟩ := List.mem_map.mp hd
  exact h a ha
theorem lc_turn {α : Type} {xs : List α} {i : Nat} {a : α} {v : V} {H1 H' : Hp} {D : Addr} {σ : St} {j : Nat} {keep : α → Bool} {f : α → PyData} {tt : TT} (hi : xs[i]? = some a) (hlen : xs.length ≤ 50000)
    (hv : SlotOk K B H' (some v) s) (eb : Ex B H') (ok : EnvOk K B H' σ ρ) (p : Acc K H1 D (((xs.take i).filter keep).map f) H')
    (ht : EvT K B tt (ρ.set j s) (keep a)) (he : keep a = true → EvD K B te (ρ.set j s) (f a)) (hn : ∀ a ∈ xs, keep a = true → noL (f a) = true) :
    gName j v (wipe σ [j]) H' fun σ2 H2 => wipe σ2 [j] = wipe σ [j] ∧ tt σ2 H2 fun b H3 => if b = true then te σ2 H3 fun y H4 => ∃ acc, H4 D = some (.lst acc) ∧ acc.length < sizeLine ∧ Acc K H1 D (((xs.take (i + 1)).filter keep).map f) (upd H4 D (.lst (acc ++ [y]))) else Acc K H1 D (((xs.take (i + 1)).filter keep).map f) H3 := by
  show wipe ((wipe σ [j]).set j (some v)) [j] = wipe σ [j] ∧ tt ((wipe σ [j]).set j (some v)) H' _
  rw [wipe1s]
  refine ⟨by rw [← wipe1s (σ := σ), wipe1], ?_⟩
  have ok' : EnvOk K B H' (σ.set j (some v)) (ρ.set j s) := ok.set hv j
  refine ht _ H' eb ok' _ fun H3 e3 => ?_
  have ep : Acc K H1 D (((xs.take i).filter keep).map f) H3 := by
    obtain ⟨h0, h1, acc, h2, h3⟩ := p
    exact ⟨h0, h1.tr e3, acc, e3 _ _ h2, dps_ex e3 _ _ h3⟩
  have hl : (((xs.take i).filter keep).map f).length < 100000 := by
    rw [List.length_map]
    have h1 := List.length_filter_le keep (xs.take i)
    have h2 : (xs.take i).length ≤ xs.length := by rw [List.length_take]; omega
    omega
  have hno : noLs (((xs.take i).filter keep).map f) = true := noLs_map fun a ha => by
    obtain ⟨h1, h2⟩ := List.mem_filter.mp ha
    exact hn a (List.mem_of_mem_take h1) h2
  cases hk : keep a with
  | true =>
    show te _ H3 _
    refine he hk _ H3 (eb.tr e3) (ok'.ex e3) _ fun w H4 e4 h4 => ?_
    refine acc_put ep e4 h4 (hn a (List.mem_of_getElem? hi) hk) hno hl fun H h => ?_
    rw [take_succ_map hi, if_pos hk]
    exact h
  | false =>
    show Acc K H1 D _ H3
    rw [take_succ_map hi, hk]
    simpa using ep
/-- over a tuple of data without lists -/
theorem el_lcT {α : Type} {xs : List α} {enc : α → PyData} {keep : α → Bool} {f : α → PyData} {j : Nat} {tt : TT} (h : EvD K B tl ρ (.tuple (xs.map enc))) (hlen : xs.length ≤ 50000) (hx : ∀ a ∈ xs, noL (enc a) = true)
    (ht : ∀ a ∈ xs, EvT K B tt (ρ.set j (.d (enc a))) (keep a)) (he : ∀ a ∈ xs, keep a = true → EvD K B te (ρ.set j (.d (enc a))) (f a)) (hn : ∀ a ∈ xs, keep a = true → noL (f a) = true) :
    EvL K B (tLc (iTup K tl) (gName j) tt te [j]) ρ ((xs.filter keep).map f) := fun σ H eb ok Q q => h σ H eb ok _ fun v H1 e1 h1 => by
  obtain ⟨a, ys, rfl, hs, ha⟩ := dp_tup h1
  refine ⟨a, rfl, ⟨ys, hs⟩, fun D hD => ?_⟩
  have hyl : ys.length = xs.length := by rw [dps_len ha, List.length_map]
  refine lc_tup (K := K) (a := a) (xs := ys) (fun i H' => Acc K H1 D (((xs.take i).filter keep).map f) H') (by simpa using acc0 hD) (fun i H' _ p => Evl.ex_t p.2.1 hs) (fun i y H' hy p => ?_) fun H' p => ?_
  · obtain ⟨d, hd, hyd⟩ := dps_get ha hy
    rw [List.getElem?_map] at hd
    cases hxi : xs[i]? with
    | none => rw [hxi] at hd; simp at hd
    | some c =>
      rw [hxi] at hd
      obtain rfl : enc c = d := by simpa using hd
      have hm := List.mem_of_getElem? hxi
      exact lc_turn (s := .d (enc c)) hxi hlen ⟨_, rfl, .inr ⟨hx c hm, dp_ex p.2.1 _ _ hyd⟩⟩ ((eb.tr e1).tr p.2.1) ((ok.ex e1).ex p.2.1) p (ht c hm) (he c hm) hn
  · obtain ⟨h0, h2, acc, h3, h4⟩ := p
    rw [hyl, List.take_length] at h4
    exact q D acc H' (e1.tr h2) (Evl.fresh_back e1 h0) h3 h4
/-- over a list of such -/
theorem el_lcL {α : Type} {xs : List α} {enc : α → PyData} {keep : α → Bool} {f : α → PyData} {j : Nat} {tt : TT} (h : EvD K B tl ρ (.list (xs.map enc))) (hlen : xs.length ≤ 50000) (hx : ∀ a ∈ xs, noL (enc a) = true)
    (ht : ∀ a ∈ xs, EvT K B tt (ρ.set j (.d (enc a))) (keep a)) (he : ∀ a ∈ xs, keep a = true → EvD K B te (ρ.set j (.d (enc a))) (f a)) (hn : ∀ a ∈ xs, keep a = true → noL (f a) = true) :
    EvL K B (tLc (iList K tl) (gName j) tt te [j]) ρ ((xs.filter keep).map f) := fun σ H eb ok Q q => h σ H eb ok _ fun v H1 e1 h1 => by
  obtain ⟨a, ys, rfl, hs, ha⟩ := dp_lst h1
  refine ⟨a, rfl, ⟨ys, hs⟩, fun D hD => ?_⟩
  have hyl : ys.length = xs.length := by rw [dps_len ha, List.length_map]
  refine lc_list (K := K) (a := a) (xs := ys) (fun i H' => Acc K H1 D (((xs.take i).filter keep).map f) H') (by simpa using acc0 hD) (fun i H' _ p => Evl.ex_l p.2.1 hs) (fun i y H' hy p => ?_) fun H' p => ?_
  · obtain ⟨d, hd, hyd⟩ := dps_get ha hy
    rw [List.getElem?_map] at hd
    cases hxi : xs[i]? with
    | none => rw [hxi] at hd; simp at hd
    | some c =>
      rw [hxi] at hd
      obtain rfl : enc c = d := by simpa using hd
      have hm := List.mem_of_getElem? hxi
      exact lc_turn (s := .d (enc c)) hxi hlen ⟨_, rfl, .inr ⟨hx c hm, dp_ex p.2.1 _ _ hyd⟩⟩ ((eb.tr e1).tr p.2.1) ((ok.ex e1).ex p.2.1) p (ht c hm) (he c hm) hn
  · obtain ⟨h0, h2, acc, h3, h4⟩ := p
    rw [hyl, List.take_length] at h4
    exact q D acc H' (e1.tr h2) (Evl.fresh_back e1 h0) h3 h4
/-- over range(n) -/
theorem el_lcR {n : Nat} {keep : Nat → Bool} {f : Nat → PyData} {j : Nat} {tt : TT} {ta : TA} (h : EvA K B ta ρ [.int (n : Int)]) (hlen : n ≤ 50000)
    (ht : ∀ a, a < n → EvT K B tt (ρ.set j (.d (.int (a : Int)))) (keep a)) (he : ∀ a, a < n → keep a = true → EvD K B te (ρ.set j (.d (.int (a : Int)))) (f a)) (hn : ∀ a, a < n → keep a = true → noL (f a) = true) :
    EvL K B (tLc (iRng1 ta) (gName j) tt te [j]) ρ (((List.range n).filter keep).map f) := fun σ H eb ok Q q => h σ H eb ok _ fun vs H1 e1 h1 => by
  have hvs : vs = [.int (n : Int)] := by
    cases h1 with
    | cons a b => cases b; rw [dp_int a]
  refine ⟨(n : Int), hvs, by omega, by omega, fun D hD => ?_⟩
  have htn : ((n : Int)).toNat = n := Int.toNat_natCast n
  rw [htn]
  refine lc_range (lo := 0) (n := n) (fun i H' => Acc K H1 D ((((List.range n).take i).filter keep).map f) H') (by simpa using acc0 hD) (fun i H' hi p => ?_) fun H' p => ?_
  · have hxi : (List.range n)[i]? = some i := by rw [List.getElem?_range hi]
    have e0 : (0 : Int) + (i : Int) = (i : Int) := Int.zero_add _
    rw [e0]
    exact lc_turn (s := .d (.int (i : Int))) hxi (by rw [List.length_range]; exact hlen) ⟨_, rfl, .inr ⟨rfl, .int _⟩⟩ ((eb.tr e1).tr p.2.1) ((ok.ex e1).ex p.2.1) p (ht i hi) (he i hi) (fun a ha => hn a (List.mem_range.mp ha))
  · obtain ⟨h0, h2, acc, h3, h4⟩ := p
    have e : (List.range n).take n = List.range n := List.take_of_length_le (by rw [List.length_range]; exact Nat.le_refl _)
    rw [e] at h4
    exact q D acc H' (e1.tr h2) (Evl.fresh_back e1 h0) h3 h4
/-- the same without an if -/
theorem el_lcT' {α : Type} {xs : List α} {enc : α → PyData} {f : α → PyData} {j : Nat} (h : EvD K B tl ρ (.tuple (xs.map enc))) (hlen : xs.length ≤ 50000) (hx : ∀ a ∈ xs, noL (enc a) = true)
    (he : ∀ a ∈ xs, EvD K B te (ρ.set j (.d (enc a))) (f a)) (hn : ∀ a ∈ xs, noL (f a) = true) : EvL K B (tLc (iTup K tl) (gName j) tYes te [j]) ρ (xs.map f) :=
  el_is (el_lcT (keep := fun _ => true) h hlen hx (fun _ _ => et_yes) (fun a ha _ => he a ha) fun a ha _ => hn a ha) (by rw [List.filter_eq_self.mpr fun _ _ => rfl])
theorem el_lcL' {α : Type} {xs : List α} {enc : α → PyData} {f : α → PyData} {j : Nat} (h : EvD K B tl ρ (.list (xs.map enc))) (hlen : xs.length ≤ 50000) (hx : ∀ a ∈ xs, noL (enc a) = true)
    (he : ∀ a ∈ xs, EvD K B te (ρ.set j (.d (enc a))) (f a)) (hn : ∀ a ∈ xs, noL (f a) = true) : EvL K B (tLc (iList K tl) (gName j) tYes te [j]) ρ (xs.map f) :=
  el_is (el_lcL (keep := fun _ => true) h hlen hx (fun _ _ => et_yes) (fun a ha _ => he a ha) fun a ha _ => hn a ha) (by rw [List.filter_eq_self.mpr fun _ _ => rfl])
theorem el_lcR' {n : Nat} {f : Nat → PyData} {j : Nat} {ta : TA} (h : EvA K B ta ρ [.int (n : Int)]) (hlen : n ≤ 50000)
    (he : ∀ a, a < n → EvD K B te (ρ.set j (.d (.int (a : Int)))) (f a)) (hn : ∀ a, a < n → noL (f a) = true) : EvL K B (tLc (iRng1 ta) (gName j) tYes te [j]) ρ ((List.range n).map f) :=
  el_is (el_lcR (keep := fun _ => true) h hlen (fun _ _ => et_yes) (fun a ha _ => he a ha) fun a ha _ => hn a ha) (by rw [List.filter_eq_self.mpr fun _ _ => rfl])

/-! ### what a def promises -/
/-- data for data -/
def spD (K : PySem.W.Frag) (R : List PyData → PyData → Prop) : Sp := fun vs H Q _ => ∃ ds d, DpAll K H vs ds ∧ R ds d ∧ ∀ v H', Ex H H' → Dp K H' v d → Q v H'
/-- a new list for data -/
def spL (K : PySem.W.Frag) (R : List PyData → List PyData → Prop) : Sp := fun vs H Q _ => ∃ ds es, DpAll K H vs ds ∧ R ds es ∧ ∀ p ws H', Ex H H' → H p = none → H' p = some (.lst ws) → DpAll K H' ws es → Q (.ref p) H'
theorem ed_call {R : List PyData → PyData → Prop} {ta : TA} {E : XK} (h : EvA K B ta ρ ds) (hR : R ds d) : EvD K B (tCall (spD K R) [] E ta) ρ d := fun σ H eb ok Q q => h σ H eb ok _ fun vs H1 e1 h1 =>
  ⟨ds, d, by rw [List.append_nil]; exact h1, hR, fun v H2 e2 h2 => q v H2 (e1.tr e2) h2⟩
theorem el_call {R : List PyData → List PyData → Prop} {ta : TA} {E : XK} (h : EvA K B ta ρ ds) (hR : R ds es) : EvL K B (tCall (spL K R) [] E ta) ρ es := fun σ H eb ok Q q => h σ H eb ok _ fun vs H1 e1 h1 =>
  ⟨ds, es, by rw [List.append_nil]; exact h1, hR, fun p ws H2 e2 hp h2 h3 => q p ws H2 (e1.tr e2) (Evl.fresh_back e1 hp) h2 h3⟩

/-! ### built-ins -/
abbrev rLen := Evl.rLenS
theorem cr_len {X : Cx} : CallR X (.builtin "len") (Evl.rLenS X.K) := call_len_seq
theorem one_dp {H : Hp} {vs : List V} (h : DpAll K H vs [d]) : ∃ v, vs = [v] ∧ Dp K H v d := by
  cases h with
  | cons a b => cases b; exact ⟨_, rfl, a⟩
theorem two_dp {H : Hp} {vs : List V} (h : DpAll K H vs [d, x]) : ∃ v w, vs = [v, w] ∧ Dp K H v d ∧ Dp K H w x := by
  cases h with
  | cons a b =>
    obtain ⟨w, rfl, c⟩ := one_dp b
    exact ⟨_, _, rfl, a, c⟩
theorem rc_lenT : RC K (Evl.rLenS K) [.tuple ds] (.int (ds.length : Nat)) := fun vs H h Q q => by
  obtain ⟨v, rfl, hv⟩ := one_dp h
  obtain ⟨a, xs, rfl, hs, ha⟩ := dp_tup hv
  exact ⟨a, xs, rfl, .inr hs, by rw [dps_len ha]; exact q _ H Ex.rf (.int _)⟩
theorem rc_lenL : RC K (Evl.rLenS K) [.list ds] (.int (ds.length : Nat)) := fun vs H h Q q => by
  obtain ⟨v, rfl, hv⟩ := one_dp h
  obtain ⟨a, xs, rfl, hs, ha⟩ := dp_lst hv
  exact ⟨a, xs, rfl, .inl hs, by rw [dps_len ha]; exact q _ H Ex.rf (.int _)⟩
def rTupS (K : PySem.W.Frag) : List V → Hp → VK → Prop := fun xs H Q => ∃ p ys, xs = [.ref p] ∧ ((SqL K H p ys ∧ ∀ l, H l = none → Q (.ref l) (upd H l (.tup ys))) ∨ (SqT K H p ys ∧ Q (.ref p) H))
theorem cr_tup {X : Cx} : CallR X (.type "tuple") (rTupS X.K) := call_tuple_of
theorem rc_tupL : RC K (rTupS K) [.list ds] (.tuple ds) := fun vs H h Q q => by
  obtain ⟨v, rfl, hv⟩ := one_dp h
  obtain ⟨a, xs, rfl, hs, ha⟩ := dp_lst hv
  exact ⟨a, xs, rfl, .inl ⟨hs, fun l hl => q _ _ (Evl.Ex.new hl) (.tup (SqT.of upd_same) (dps_ex (Evl.Ex.new hl) _ _ ha))⟩⟩
theorem rc_tupT : RC K (rTupS K) [.tuple ds] (.tuple ds) := fun vs H h Q q => by
  obtain ⟨v, rfl, hv⟩ := one_dp h
  obtain ⟨a, xs, rfl, hs, ha⟩ := dp_tup hv
  exact ⟨a, xs, rfl, .inr ⟨hs, q _ H Ex.rf hv⟩⟩
theorem cr_list {X : Cx} : CallR X (.type "list") (Evl.rListS X.K) := call_list_of
theorem rl_listT : RCL K (Evl.rListS K) [.tuple ds] ds := fun vs H h Q q => by
  obtain ⟨v, rfl, hv⟩ := one_dp h
  obtain ⟨a, xs, rfl, hs, ha⟩ := dp_tup hv
  exact ⟨a, xs, rfl, .inr hs, fun l hl => q l xs _ (Evl.Ex.new hl) hl upd_same (dps_ex (Evl.Ex.new hl) _ _ ha)⟩
theorem rl_listL : RCL K (Evl.rListS K) [.list ds] ds := fun vs H h Q q => by
  obtain ⟨v, rfl, hv⟩ := one_dp h
  obtain ⟨a, xs, rfl, hs, ha⟩ := dp_lst hv
  exact ⟨a, xs, rfl, .inl hs, fun l hl => q l xs _ (Evl.Ex.new hl) hl upd_same (dps_ex (Evl.Ex.new hl) _ _ ha)⟩
/-- the greatest of some -/
def maxI : List Int → Int
  | [] => 0
  | [n] => n
  | n :: ns => max n (maxI ns)
theorem maxI_mem : ∀ {ns : List Int}, ns ≠ [] → maxI ns ∈ ns
  | [], h => absurd rfl h
  | [n], _ => by simp [maxI]
  | n :: m :: ns, _ => by
    have ih := maxI_mem (ns := m :: ns) (by simp)
    show max n (maxI (m :: ns)) ∈ n :: m :: ns
    rcases Int.le_total n (maxI (m :: ns)) with h | h
    · rw [Int.max_eq_right h]; exact List.mem_cons_of_mem _ ih
    · rw [Int.max_eq_left h]; exact List.mem_cons_self
theorem maxI_ge : ∀ {ns : List Int} {y : Int}, y ∈ ns → y ≤ maxI ns
  | [n], y, h => by
    have : y = n := by simpa using h
    subst this
    exact Int.le_refl _
  | n :: m :: ns, y, h => by
    show y ≤ max n (maxI (m :: ns))
    rcases List.mem_cons.mp h with e | h
    · subst e; exact Int.le_max_left _ _
    · exact Int.le_trans (maxI_ge h) (Int.le_max_right _ _)
theorem maxI_is {ns : List Int} {m : Int} (h1 : m ∈ ns) (h2 : ∀ y ∈ ns, y ≤ m) : m = maxI ns := by
  have hne : ns ≠ [] := by rintro rfl; cases h1
  exact Int.le_antisymm (maxI_ge h1) (h2 _ (maxI_mem hne))
theorem rc_max {ns : List Int} (hne : ns ≠ []) : RC K (L2.rMax K) [.list (ns.map .int)] (.int (maxI ns)) := fun vs H h Q q => by
  obtain ⟨v, rfl, hv⟩ := one_dp h
  obtain ⟨a, xs, rfl, hs, ha⟩ := dp_lst hv
  rw [dps_ints ha] at hs
  refine ⟨a, ns, rfl, hs, ?_, fun m h1 h2 => ?_⟩
  · cases ns with
    | nil => exact absurd rfl hne
    | cons _ _ => simp
  · rw [maxI_is h1 h2]; exact q _ H Ex.rf (.int _)
theorem rc_sum {ns : List Int} : RC K (L2.rSum K) [.list (ns.map .int)] (.int ns.sum) := fun vs H h Q q => by
  obtain ⟨v, rfl, hv⟩ := one_dp h
  obtain ⟨a, xs, rfl, hs, ha⟩ := dp_lst hv
  rw [dps_ints ha] at hs
  exact ⟨a, ns, rfl, hs, q _ H Ex.rf (.int _)⟩
theorem rc_all {bs : List Bool} : RC K (L2.rAll K) [.list (bs.map .bool)] (.bool (bs.all id)) := fun vs H h Q q => by
  obtain ⟨v, rfl, hv⟩ := one_dp h
  obtain ⟨a, xs, rfl, hs, ha⟩ := dp_lst hv
  rw [dps_bls ha] at hs
  exact ⟨a, bs, rfl, hs, q _ H Ex.rf (.bl _)⟩
def rMax2 : List V → Hp → VK → Prop := fun xs H Q => ∃ i j, xs = [.int i, .int j] ∧ Q (.int (if j > i then j else i)) H
def rMin2 : List V → Hp → VK → Prop := fun xs H Q => ∃ i j, xs = [.int i, .int j] ∧ Q (.int (if j < i then j else i)) H
theorem cr_max2 {X : Cx} (hc : X.calm = true) : CallR X (.builtin "max") rMax2 := call_max2 hc
theorem cr_min2 {X : Cx} (hc : X.calm = true) : CallR X (.builtin "min") rMin2 := call_min2 hc
variable {i j : Int}
theorem rc_max2 : RC K rMax2 [.int i, .int j] (.int (max i j)) := fun vs H h Q q => by
  obtain ⟨v, w, rfl, hv, hw⟩ := two_dp h
  obtain rfl := dp_int hv
  obtain rfl := dp_int hw
  refine ⟨i, j, rfl, ?_⟩
  have e : (if j > i then j else i) = max i j := by rw [Int.max_def]; split <;> split <;> omega
  rw [e]; exact q _ H Ex.rf (.int _)
theorem rc_min2 : RC K rMin2 [.int i, .int j] (.int (min i j)) := fun vs H h Q q => by
  obtain ⟨v, w, rfl, hv, hw⟩ := two_dp h
  obtain rfl := dp_int hv
  obtain rfl := dp_int hw
  refine ⟨i, j, rfl, ?_⟩
  have e : (if j < i then j else i) = min i j := by rw [Int.min_def]; split <;> split <;> omega
  rw [e]; exact q _ H Ex.rf (.int _)
def rInt1 : List V → Hp → VK → Prop := fun xs H Q => (∃ i, xs = [.int i] ∧ Q (.int i) H) ∨ ∃ k, xs = [.bl k] ∧ Q (.int (if k then 1 else 0)) H
theorem cr_int1 {X : Cx} : CallR X (.type "int") rInt1 := call_int1
theorem rc_int1 : RC K rInt1 [.int i] (.int i) := fun vs H h Q q => by
  obtain ⟨v, rfl, hv⟩ := one_dp h
  obtain rfl := dp_int hv
  exact .inl ⟨i, rfl, q _ H Ex.rf (.int _)⟩
/-- sorted ints -/
def sortI (ns : List Int) : List Int := ns.mergeSort (fun a b => decide (a ≤ b))
theorem sorted_unique : ∀ {a b : List Int}, a.Perm b → a.Pairwise (· ≤ ·) → b.Pairwise (· ≤ ·) → a = b := fun {a b} h1 h2 h3 =>
  List.Perm.eq_of_pairwise (fun _ _ _ _ x y => Int.le_antisymm x y) h2 h3 h1
theorem sortI_perm (ns : List Int) : (sortI ns).Perm ns := List.mergeSort_perm _ _
theorem sortI_pw (ns : List Int) : (sortI ns).Pairwise (· ≤ ·) := by
  have h := List.pairwise_mergeSort (le := fun a b : Int => decide (a ≤ b)) (fun a b c h1 h2 => by simp at *; omega) (fun a b => by simp; omega) ns
  exact h.imp fun h => by simpa using h
theorem sortI_is {ns ms : List Int} (h1 : ms.Perm ns) (h2 : ms.Pairwise (· ≤ ·)) : ms = sortI ns := sorted_unique (h1.trans (sortI_perm ns).symm) h2 (sortI_pw ns)
theorem rl_sortI {ns : List Int} : RCL K (L2.rSortedI K) [.list (ns.map .int)] ((sortI ns).map .int) := fun vs H h Q q => by
  obtain ⟨v, rfl, hv⟩ := one_dp h
  obtain ⟨a, xs, rfl, hs, ha⟩ := dp_lst hv
  rw [dps_ints ha] at hs
  refine ⟨a, ns, rfl, hs, fun ms p h1 h2 hp => ?_⟩
  rw [sortI_is h1 h2]
  exact q p _ _ (Evl.Ex.new hp) hp upd_same (dps_of_ints _)
/-- list(range(n)), tuple(range(n)) -/
def rangeD (n : Nat) : List PyData := (List.range n).map fun k : Nat => .int (k : Int)
theorem rgV_dps {H : Hp} (n : Nat) : DpAll K H (rgV 0 (n : Int)) (rangeD n) := by
  unfold rgV rangeD
  have e : ((n : Int) - 0).toNat = n := by omega
  rw [e]
  generalize List.range n = l
  induction l with
  | nil => exact .nil
  | cons a l ih =>
    refine .cons ?_ ih
    show Dp K H (.int (0 + (a : Int))) (.int (a : Int))
    rw [Int.zero_add]
    exact .int _
theorem el_listRg {n : Nat} (h : EvD K B te ρ (.int (n : Int))) (hn : n ≤ 1000) : EvL K B (tLstRg (tRg1 te)) ρ (rangeD n) := fun σ H eb ok Q q => h σ H eb ok _ fun v H1 e1 h1 =>
  ⟨(n : Int), dp_int h1, RgOk.of_le (by omega) (by omega) (by omega) (by omega), fun l hl => q l _ _ (e1.tr (Evl.Ex.new hl)) (Evl.fresh_back e1 hl) upd_same (rgV_dps n)⟩
theorem ed_tupRg {n : Nat} (h : EvD K B te ρ (.int (n : Int))) (hn : n ≤ 1000) : EvD K B (tTupRg (tRg1 te)) ρ (.tuple (rangeD n)) := fun σ H eb ok Q q => h σ H eb ok _ fun v H1 e1 h1 =>
  ⟨(n : Int), dp_int h1, RgOk.of_le (by omega) (by omega) (by omega) (by omega), fun l hl => q _ _ (e1.tr (Evl.Ex.new hl)) (.tup (SqT.of upd_same) (rgV_dps n))⟩
/-- xs[::-1] -/
theorem dps_rev {H : Hp} : ∀ {vs : List V} {ds : List PyData}, DpAll K H vs ds → DpAll K H vs.reverse ds.reverse
  | _, [], h => by cases h; exact .nil
  | _, d :: ds, h => by
    cases h with
    | cons h1 h2 =>
      rw [List.reverse_cons, List.reverse_cons]
      exact dps_app (dps_rev h2) (.cons h1 .nil)
theorem el_rev (h : EvD K B te ρ (.list ds)) : EvL K B (tRevL K te) ρ ds.reverse := fun σ H eb ok Q q => h σ H eb ok _ fun v H1 e1 h1 => by
  obtain ⟨a, xs, rfl, hs, ha⟩ := dp_lst h1
  exact ⟨a, xs, rfl, hs, fun l hl => q l _ _ (e1.tr (Evl.Ex.new hl)) (Evl.fresh_back e1 hl) upd_same (dps_rev (dps_ex (Evl.Ex.new hl) _ _ ha))⟩
/-- n.bit_length() -/
theorem ed_bits (h : EvD K B te ρ (.int i)) : EvD K B (tBits te) ρ (.int (Builtin.Int.intBits i : Nat)) := fun σ H eb ok Q q => h σ H eb ok _ fun v H1 e1 h1 => ⟨i, dp_int h1, q _ H1 e1 (.int _)⟩
end
end Fk
/-! sorted(xs, key=f), f a def of the program that changes nothing -/
namespace Fk
open PySem PySem.Spec PyProof.Rows L2
section
variable {X : Cx} {pins : List (Addr × Obj)} {σ : L2.St} {H : Hp} {s : Shared}

/-- an object that stands unseen becomes a tracked one -/
theorem inv_track {a : Addr} {o : HO} (I : Inv X pins σ H s) (fp : FpOk X pins H a) (hs : X.s_0.heap.objs.size ≤ a) (new : ObjOk X.prog X.w (upd H a o) s.heap a o) : Inv X pins σ (upd H a o) s := by
  obtain ⟨hn, hL, hf, _, hc, hp⟩ := fp
  have ne : ∀ {b : Addr} {u : HO}, H b = some u → b ≠ a := fun {b u} e z => by rw [z, hn] at e; cases e
  have lo : ∀ {b : Addr} {u : Obj}, X.s_0.heap.get? b = some u → b ≠ a := fun {b u} e z => by
    subst z
    exact absurd (Nat.lt_of_lt_of_le (Heap.lt_size e) hs) (Nat.lt_irrefl _)
  constructor
  case ok => exact I.ok
  case os => exact I.os
  case bare => exact I.bare
  case base =>
    refine ⟨I.base.keep, I.base.slot, fun b u e n hx => ?_, I.base.there, fun b xs e => ?_, fun b u xs e => ?_, fun b ps e => ?_⟩
    · rw [upd_ne (lo e)]; exact I.base.free b u e n hx
    · have z := I.base.tups b xs e
      rw [upd_ne (ne z)]; exact z
    · have z := I.base.frzs b u xs e
      rw [upd_ne (ne z)]; exact z
    · obtain ⟨m, z⟩ := I.base.tbls b ps e
      exact ⟨m, by rw [upd_ne (ne z)]; exact z⟩
  case loc => exact I.loc
  case cell => exact I.cell
  case free => rw [upd_ne (Ne.symm hL)]; exact I.free
  case freeC => exact fun x c e => by rw [upd_ne (hc x c e)]; exact I.freeC x c e
  case pin =>
    intro p hm
    obtain ⟨h1, h2, h3⟩ := I.pin p hm
    exact ⟨h1, by rw [upd_ne (hp p hm)]; exact h2, h3⟩
  case hok =>
    intro b u e
    by_cases hb : b = a
    · subst hb; rw [upd_same] at e; cases e; exact new
    · rw [upd_ne hb] at e
      exact (I.hok b u e).stay (fun _ _ _ z => z) (fun c z => by rw [upd_ne (ne z)]; exact z) fun c xs z => by rw [upd_ne (ne z)]; exact z
  case len => exact I.len

mutual
theorem reads_noL (I : Inv X pins σ H s) : ∀ (d : PyData) (v : V) (u : Value), noL d = true → Dp X.K H v d → RelV v u → Reads s.heap u d []
  | .none, _, _, _, h, r => by cases h; cases r; exact .none
  | .bool b, _, _, _, h, r => by cases h; cases r; exact .bool b
  | .int i, _, _, _, h, r => by cases h; obtain ⟨t, rfl⟩ := r; exact .int i t
  | .str x, _, _, _, h, r => by cases h; obtain ⟨t, rfl⟩ := r; exact .str x t
  | .list _, _, _, n, _, _ => by simp [noL] at n
  | .dict _, _, _, n, _, _ => by simp [noL] at n
  | .tuple ds, _, _, n, h, r => by
    cases h with
    | tup hs ha =>
      cases r
      obtain ⟨its, rv, ⟨o, ho, hc, m, hd⟩, _⟩ := I.tuple hs
      exact .tuple ho hc hd (reads_noLs I ds _ its (by simpa [noL] using n) ha rv)
theorem reads_noLs (I : Inv X pins σ H s) : ∀ (ds : List PyData) (vs : List V) (us : List Value), noLs ds = true → DpAll X.K H vs ds → Vals vs us → ReadsAll s.heap us ds []
  | [], _, _, _, h, r => by cases h; cases r; exact .nil
  | d :: ds, _, _, n, h, r => by
    have n' : noL d = true ∧ noLs ds = true := by simpa [noLs] using n
    cases h with
    | cons h1 h2 =>
      cases r with
      | cons r1 r2 => exact (ReadsAll.cons (reads_noL I d _ _ n'.1 h1 r1) (reads_noLs I ds _ _ n'.2 h2 r2))
end

/-- a def is called somewhere deeper -/
theorem call_deep {A : Around} {k : Nat} {f : Addr} {fd : FuncData} {ps : List Str} {sp : Sp} {us : List Value} {vs : List V} {Q : VK} {R : Value → Shared → Prop} {W : Value → Shared → Prop} (hA : Env0 X.prog X.w X.K X.mg X.base A X.stack s H) (F : FnOk X.prog X.w X.K X.mg X.base CX0 k f fd ps sp) (hr : Room k A)
    (hb : Binds X.K fd ps []) (I : Inv X pins σ H s) (rv : Vals vs us) (h : sp vs H Q E0) (fin : ∀ u s', CE X.stack X.prog X.w H s Q u s' → R u s') : wpAny (model X.prog X.w) A (call (.ref f) us) R W s := by
  have hl : us.length = ps.length := by rw [← rv.length]; exact F.len _ _ _ _ h
  have e0 : us ++ ([] : List Value) = us := List.append_nil us
  have hbt := hb s us I.kIn (by rw [e0]; exact hl)
  rw [e0] at hbt
  refine wpAny_call (codeAny_mono (F.run A X.stack s H ⟨us, []⟩ us vs Q E0 hr hA hbt rv h) fun r s' hq => ?_)
  cases r with
  | error e => exact (show False from hq).elim
  | ok fl =>
    cases fl with
    | ret u => exact fin u s' hq
    | next => exact (show False from hq).elim
    | brk => exact (show False from hq).elim
    | cont => exact (show False from hq).elim

/-- the items in the order of their keys -/
def sortedBy (xs : List V) (ks : List PyData) : List V := ((xs.zip ks).mergeSort (PySem.W.dataLe false Prod.snd)).map Prod.fst

theorem eachIs_of {α β : Type} {R : α → β → Prop} : ∀ {as : List α} {bs : List β}, as.length = bs.length → (∀ (i : Nat) a b, as[i]? = some a → bs[i]? = some b → R a b) → PySem.W.EachIs R as bs
  | [], [], _, _ => .nil
  | [], _ :: _, h, _ => by simp at h
  | _ :: _, [], h, _ => by simp at h
  | a :: as, b :: bs, h, g => .cons (g 0 a b rfl rfl) (eachIs_of (by simpa using h) fun i x y hx hy => g (i + 1) x y (by simpa using hx) (by simpa using hy))
theorem vals_of_each {β : Type} {g : β → V} : ∀ {us : List Value} {bs : List β}, PySem.W.EachIs (fun u b => RelV (g b) u) us bs → Vals (bs.map g) us
  | _, _, .nil => .nil
  | _, _, .cons h t => .cons h (vals_of_each t)

end
section
variable {prog : Program} {w : World} {A : Around} {E : Value → Shared → Prop} {s : Shared}
/-- the heap with the copy of a tuple's items -/
def gatherT (h : Heap) (vs : List Value) : Heap := (h.push (seqObj "list" #[] 0)).update h.objs.size (Obj.mapSeq (· ++ vs.toArray))
theorem gather_tup {t : Addr} {vs : List Value} {Q : List Value → Shared → Prop} (ht : s.heap.IsTuple t vs.toArray) (hz : vs.length ≤ sizeLine) (q : Q vs { s with heap := gatherT s.heap vs }) : wpAny (model prog w) A (collect (.ref t)) Q E s := by
  obtain ⟨o, ho, hc, n, hd⟩ := id ht
  have old : (s.heap.push (seqObj "list" #[] 0)).get? t = some o := Heap.get?_push_of_some _ ho
  have new : (s.heap.push (seqObj "list" #[] 0)).get? s.heap.objs.size = some (seqObj "list" #[] 0) := Heap.get?_push_size _ rfl
  have room : ((#[] : Array Value) ++ vs.toArray).size ≤ sizeLine + 1 := by
    simp only [Array.size_append, List.size_toArray, List.length_nil]; omega
  unfold collect
  refine wpAny_bind (wpAny_runValue (codeAny_builtin F.entry_proto_collect ?_))
  refine wpAny_bind (m := newList []) (wpAny_newList (wpAny_pure ⟨plainId_quiet F.plain_list_iadd _, codeAny_builtin F.entry_list_iadd ?_⟩))
  show wpAny _ _ (Builtin.List.listExtendWith (.ref s.heap.objs.size) (.ref t) (.ref s.heap.objs.size)) _ _ { s with heap := s.heap.push (seqObj "list" #[] 0) }
  unfold Builtin.List.listExtendWith
  refine wpAny_bind (wpAny_typeOf (T := "tuple") ⟨o, old, hc⟩ ?_)
  have k : (Value.type "tuple" == Value.type "tuple") = true := rfl
  rw [if_pos (by rw [k]; simp)]
  refine wpAny_bind (listItems_at old hd ?_)
  refine wpAny_bind (listItems_at (xs := #[]) (n := 0) new rfl ?_)
  rw [if_neg (by simp)]
  refine wpAny_bind (listUpdate_at (xs := #[]) (n := 0) new rfl (wpAny_pure ?_) (Nat.zero_le _) room)
  refine wpAny_bind (m := load s.heap.objs.size) (wpAny_load (get?_update_seq new _) ?_)
  have e : ((#[] : Array Value) ++ vs.toArray).toList = vs := by simp
  refine wpAny_pure ?_
  rw [e]
  exact q
theorem gather_old {h : Heap} {vs : List Value} {b : Addr} {o : Obj} (q : h.get? b = some o) : (gatherT h vs).get? b = some o := by
  unfold gatherT
  rw [Heap.get?_update_ne _ _ _ _ (Nat.ne_of_lt (Heap.lt_size q))]
  exact Heap.get?_push_of_some _ q
theorem sorted_of_sortT {l : Addr} {vs : List Value} {kw : List (Str × Value)} {Q : Value → Shared → Prop} (hl : s.heap.IsTuple l vs.toArray) (hL : vs.length ≤ sizeLine) (ha1 : argsOk "sorted" ⟨[.ref l], kw⟩) (ha2 : ∀ x, argsOk "list.sort" ⟨[.ref x], kw⟩)
    (body : ∀ E' : Value → Shared → Prop, wpAny (model prog w) A.in1.in1 (Builtin.«list.sort» ⟨[.ref (s.heap.objs.size + 1)], kw⟩) (fun f s' => f = .done (.ret .none) ∧ Q (.ref (s.heap.objs.size + 1)) s') E' { s with heap := PySem.W.copyHeap s.heap vs }) :
    wpAny (model prog w) A (call (.builtin "sorted") [.ref l] kw) Q E s := by
  refine PyProof.Rows.call_function_entry_kw PyProof.Rows.kind_sorted PyProof.Rows.plain_sorted PyProof.Rows.entry_sorted ha1 ?_
  unfold Builtin.«sorted»
  refine wpAny_bind (m := checkCount "sorted" 1 1 _) (wpAny_pure ?_)
  refine wpAny_bind (gather_tup hl hL ?_)
  refine wpAny_bind (wpAny_newList ?_ hL)
  have hsz : (gatherT s.heap vs).objs.size = s.heap.objs.size + 1 := by
    unfold gatherT
    rw [Heap.size_update, Heap.size_push]
  show wpAny _ _ _ _ _ { s with heap := PySem.W.copyHeap s.heap vs }
  rw [hsz]
  refine wpAny_bind (wpAny_holding (wpAny_call_entry_kw PyProof.Rows.slot_list_sort ⟨_, PySem.W.copyHeap_at s.heap vs, rfl⟩ PyProof.Rows.entry_list_sort ?body (ha2 _)))
  case body =>
    show wpAny (model prog w) A.in1.in1 (Builtin.«list.sort» ⟨[.ref (s.heap.objs.size + 1)], kw⟩) _ _ _
    refine wpAny_mono (body _) (fun f s' hf => ?_) fun _ _ e => e
    obtain ⟨rfl, hq⟩ := hf
    exact ⟨_, rfl, wpAny_pure ⟨_, rfl, hq⟩⟩
end
section
variable {X : Cx} {pins : List (Addr × Obj)} {σ : L2.St} {H : Hp} {s : Shared}
theorem sorted_fn {l : Addr} {xs : List V} {ks : List PyData} {f : Addr} {fd : FuncData} {p : Str} {sp : Sp} {k : Nat} {Q : VK} (I : Inv X pins σ H s) (F : FnOk X.prog X.w X.K X.mg X.base CX0 k f fd [p] sp) (hb : Binds X.K fd [p] []) (hr : Room (k + 2) X.A)
    (hs : SqL X.K H l xs ∨ SqT X.K H l xs) (hlen : ks.length = xs.length) (hal : PySem.W.AllAlike ks) (hsk : PySem.W.Sortable ks) (hnl : noLs ks = true) (hd : ∀ d ∈ ks, d.depth ≤ 40)
    (hsp : ∀ (i : Nat) x d, xs[i]? = some x → ks[i]? = some d → ∀ H1, Ex H H1 → ∀ Q' : VK, (∀ v H2, Ex H1 H2 → Dp X.K H2 v d → Q' v H2) → sp [x] H1 Q' E0)
    (q : ∀ r H2, Ex H H2 → H r = none → H2 r = some (.lst (sortedBy xs ks)) → Q (.ref r) H2) :
    wpAny (model X.prog X.w) X.A (call (.builtin "sorted") [.ref l] [(Str.ofString "key", .ref f)]) (EP X pins σ Q) X.xe s := by
  obtain ⟨its, rv, hz, so⟩ : ∃ its : List Value, Vals xs its ∧ xs.length ≤ sizeLine ∧ ((∀ E' : Value → Shared → Prop, wpAny (model X.prog X.w) X.A.in1.in1 (Builtin.«list.sort» ⟨[.ref (s.heap.objs.size + 1)], [(Str.ofString "key", .ref f)]⟩) (fun r s' => r = .done (.ret .none) ∧ EP X pins σ Q (.ref (s.heap.objs.size + 1)) s') E' { s with heap := PySem.W.copyHeap s.heap its }) → wpAny (model X.prog X.w) X.A (call (.builtin "sorted") [.ref l] [(Str.ofString "key", .ref f)]) (EP X pins σ Q) X.xe s) := by
    rcases hs with hs | hs
    · obtain ⟨its, rv, hl, hz⟩ := I.list hs
      exact ⟨its, rv, hz, fun body => PySem.W.sorted_of_sort hl.isList (by rw [← rv.length]; exact hz) (ksk_s1 _ _) (fun _ => ksk_l1 _ _) body⟩
    · obtain ⟨its, rv, ⟨o, ho, hc, m, hd⟩, hz⟩ := I.tuple hs
      exact ⟨its, rv, hz, fun body => sorted_of_sortT ⟨o, ho, hc, m, hd⟩ (by rw [← rv.length]; exact hz) (ksk_s1 _ _) (fun _ => ksk_l1 _ _) body⟩
  have hil : its.length = xs.length := rv.length.symm
  have hzi : its.length ≤ sizeLine := by rw [hil]; exact hz
  refine so fun W => ?_
  rw [ksk_t1]
  -- the copy stands at a
  obtain ⟨a, ea⟩ : ∃ a : Nat, s.heap.objs.size + 1 = a := ⟨_, rfl⟩
  rw [ea]
  have hca : (PySem.W.copyHeap s.heap its).get? a = some (seqObj "list" its.toArray 0) := by rw [← ea]; exact PySem.W.copyHeap_at s.heap its
  have hold : ∀ b o, s.heap.get? b = some o → b ≠ a ∧ (PySem.W.copyHeap s.heap its).get? b = some o := fun b o e => ⟨by
    exact Nat.ne_of_lt (Nat.lt_trans (Heap.lt_size e) (by rw [← ea]; exact Nat.lt_succ_self _)), PySem.W.copyHeap_old e⟩
  generalize hhc : PySem.W.copyHeap s.heap its = hc at hca hold
  unfold ksk_tree
  refine wpAny_bind (listItems_at (s := { s with heap := hc }) hca rfl ?_)
  refine wpAny_bind (listUpdate_at (s := { s with heap := hc }) hca rfl ?_ (by simpa using hzi) (Nat.zero_le _))
  obtain ⟨e1, hca1⟩ : ∃ e1, (hc.update a (Obj.mapSeq fun _ => (#[] : Array Value))).get? a = some (seqObj "list" #[] e1) := ⟨_, get?_update_seq hca _⟩
  refine wpAny_bind (seqEpoch_at (s := { s with heap := hc.update a (Obj.mapSeq fun _ => (#[] : Array Value)) }) hca1 rfl ?_)
  refine wpAny_bind (wpAny_newTuple ?_ (show its.length ≤ _ from hzi))
  refine wpAny_bind (wpAny_newList ?_ (Nat.zero_le _))
  refine wpAny_holding ?_
  generalize hh3 : ((hc.update a (Obj.mapSeq fun _ => (#[] : Array Value))).push { cls := .type "tuple", data := .seq its.toArray }) = ht
  have hkept : ∀ b o, b ≠ a → hc.get? b = some o → ht.get? b = some o := fun b o hb e => by
    rw [← hh3]
    exact Heap.get?_push_of_some _ ((Heap.get?_update_ne _ _ _ _ hb).trans e)
  have hta : ht.get? a = some (seqObj "list" #[] e1) := by rw [← hh3]; exact Heap.get?_push_of_some _ hca1
  have hsz : s.heap.objs.size ≤ ht.objs.size := by
    have h1 : (a : Nat) < ht.objs.size := Heap.lt_size hta
    omega
  -- the key store stands at kS
  show wpAny (model X.prog X.w) X.A.in1.in1 (ksk_rest a (.ref f) false its.toArray e1 (.ref ht.objs.size)) _ _ { s with heap := ht.push { cls := .type "list", data := .seq ([] : List Value).toArray } }
  obtain ⟨kS, hkS⟩ : ∃ kS : Nat, ht.objs.size = kS := ⟨_, rfl⟩
  rw [hkS]
  have hka : kS ≠ a := by
    have h1 : (a : Nat) < ht.objs.size := Heap.lt_size hta
    omega
  have hlo : s.heap.objs.size ≤ kS := by omega
  have hla : s.heap.objs.size ≤ a := by omega
  have I3 : Inv X pins σ H { s with heap := ht.push { cls := .type "list", data := .seq ([] : List Value).toArray } } := I.kept (t' := s.toks) fun b o e => by
    obtain ⟨h1, h2⟩ := hold b o e
    exact Heap.get?_push_of_some _ (hkept b o h1 h2)
  have hfa : FpOk X pins H a := I.fpOk hla (I.hok.fresh hla)
  have hfk : FpOk X pins H kS := I.fpOk hlo (I.hok.fresh hlo)
  have nst : ∀ b, FpOk X pins H b → b ∉ frs X.stack := fun b fb z => by
    rcases List.mem_cons.mp (I.stkSub b z) with e | e
    · exact fb.2.1 e
    · exact fb.2.2.1 e
  have hka3 : (ht.push { cls := .type "list", data := .seq ([] : List Value).toArray }).get? kS = some (seqObj "list" #[] 0) := by rw [← hkS]; exact Heap.get?_push_size _ rfl
  have hta3 : (ht.push { cls := .type "list", data := .seq ([] : List Value).toArray }).get? a = some (seqObj "list" #[] e1) := Heap.get?_push_of_some _ hta
  generalize (ht.push { cls := .type "list", data := .seq ([] : List Value).toArray }) = h3 at I3 hka3 hta3
  -- the turns
  unfold ksk_rest
  refine wpAny_bind (wpAny_rule ?_)
  rw [← Array.forIn_toList]
  have hloop : ∀ (i : Nat) (s' : Shared), (∃ H' kA c kv, Inv X pins σ H' s' ∧ Ex H H' ∧ FpOk X pins H' a ∧ FpOk X pins H' kS ∧ s'.heap.get? kS = some (seqObj "list" kA c) ∧ s'.heap.get? a = some (seqObj "list" #[] e1) ∧ Vals kv kA.toList ∧ DpAll X.K H' kv (ks.take i)) → True := fun _ _ _ => trivial
  refine wpAny_bind (ksk_fold (fun i s' => ∃ H' kA c kv, Inv X pins σ H' s' ∧ Ex H H' ∧ FpOk X pins H' a ∧ FpOk X pins H' kS ∧ s'.heap.get? kS = some (seqObj "list" kA c) ∧ s'.heap.get? a = some (seqObj "list" #[] e1) ∧ Vals kv kA.toList ∧ DpAll X.K H' kv (ks.take i)) its 0 _
    ⟨H, #[], 0, [], I3, Ex.rf, hfa, hfk, hka3, hta3, .nil, by simpa using DpAll.nil⟩ ?step ?done)
  case step =>
    rintro j u s' hu ⟨H', kA, c, kv, I', ex, fa, fk, nk, na, rk, dk⟩
    simp only [Nat.zero_add] at dk ⊢
    obtain ⟨hj, _⟩ := List.getElem?_eq_some_iff.mp hu
    obtain ⟨x, hx⟩ : ∃ x, xs[j]? = some x := ⟨_, List.getElem?_eq_getElem (by omega)⟩
    obtain ⟨d, hdj⟩ : ∃ d, ks[j]? = some d := ⟨_, List.getElem?_eq_getElem (by omega)⟩
    have ru : RelV x u := by
      obtain ⟨u', h1, h2⟩ := rv.get hx
      rw [hu] at h1; cases h1; exact h2
    have hdm : d ∈ ks := List.mem_of_getElem? hdj
    refine wpAny_bind (wpAny_attempt ?_)
    refine call_deep (A := X.A.in1.in1) I'.env0.in1.in1 F hr.in1.in1 hb I' (.cons ru .nil) (hsp j x d hx hdj H' ex (fun v H2 => Ex H' H2 ∧ Dp X.K H2 v d) fun v H2 e h => ⟨e, h⟩) fun w s'' ce => ?_
    obtain ⟨v, H2, os, bare, un, hok, rw', ex2, hv⟩ := ce
    have I2 : Inv X pins σ H2 s'' := I'.call' (ch := []) os un hok bare fun b z => absurd z (by simp)
    have nk2 : s''.heap.get? kS = some (seqObj "list" kA c) := un.keep kS _ nk fk.1 (nst kS hfk) (by simp)
    have na2 : s''.heap.get? a = some (seqObj "list" #[] e1) := un.keep a _ na fa.1 (nst a hfa) (by simp)
    have fk2 : FpOk X pins H2 kS := ⟨un.free kS _ nk fk.1 (by simp), fk.2⟩
    have fa2 : FpOk X pins H2 a := ⟨un.free a _ na fa.1 (by simp), fa.2⟩
    have hkl : kA.size = j := by
      have h1 : kv.length = kA.size := by simpa using rk.length
      have h2 : kv.length = (ks.take j).length := dps_len dk
      rw [List.length_take] at h2
      omega
    show wpAny _ _ (Builtin.List.listUpdate (.ref kS) (·.push w) >>= _) _ _ s''
    obtain ⟨c2, hc2⟩ : ∃ c2, (s''.heap.update kS (Obj.mapSeq (·.push w))).get? kS = some (seqObj "list" (kA.push w) c2) := ⟨_, get?_update_seq nk2 (·.push w)⟩
    refine wpAny_bind (listUpdate_at nk2 rfl ?_ (by omega) (by rw [Array.size_push]; omega))
    have sb := Heap.SameBut.update s''.heap kS (Obj.mapSeq (·.push w))
    refine wpAny_pure ⟨rfl, H2, kA.push w, c2, kv ++ [v], I2.turned (it := kS) (t' := s''.toks) (fun b o hb' e => (sb.2 b hb').trans e) fk2.1 fk2.2.1 fk2.2.2.2.1 fk2.2.2.2.2.1 fk2.2.2.2.2.2, ex.tr ex2, fa2, fk2, hc2, (sb.2 a hka.symm).trans na2, ?_, ?_⟩
    · have e : (kA.push w).toList = kA.toList ++ [w] := by simp
      rw [e]
      exact Vals.append rk (.cons rw' .nil)
    · have e : ks.take (j + 1) = ks.take j ++ [d] := by rw [List.take_add_one, hdj]; rfl
      rw [e]
      exact dps_app (dps_ex ex2 _ _ dk) (.cons hv .nil)
  case done =>
    rintro s' ⟨H', kA, c, kv, I', ex, fa, fk, nk, na, rk, dk⟩
    have ekt : ks.take (0 + its.length) = ks := List.take_of_length_le (by omega)
    rw [ekt] at dk
    have hkl : kA.size = its.length := by
      have h1 : kv.length = kA.size := by simpa using rk.length
      have h2 : kv.length = ks.length := dps_len dk
      omega
    try dsimp only
    refine wpAny_bind (listItems_at nk rfl ?_)
    have each : PySem.W.EachIs (fun v d => ∃ as, Reads s'.heap v d as) kA.toList ks := eachIs_of (by rw [Array.length_toList]; omega) fun i u d hu hd' => by
      obtain ⟨v, hv, hdv⟩ := dps_getD dk hd'
      obtain ⟨u', h1, h2⟩ := rk.get hv
      rw [hu] at h1; cases h1
      exact ⟨_, reads_noL I' d v _ ((noLs_iff.mp hnl) d (List.mem_of_getElem? hd')) hdv h2⟩
    have hroom := hr.un
    refine PySem.W.keyH_end (vs := its) (κ := PySem.W.dataKind s'.heap ks) (h₁ := PySem.W.hideAll s'.heap [kS]) (fun b o _ e => PySem.W.of_hideAll [kS] e) (PySem.W.hideAll_none [kS] (by simp)) nk na hka
      (PySem.W.SortsAt.data each hal hsk fun d hdm => ?_) hkl hzi fun h' tk c' kp hout => ⟨rfl, ?_⟩
    · have h1 := hd d hdm
      show X.A.units + 1 + 1 + d.depth < cLine
      omega
    -- the sorted list is tracked
    have hzk : (kA.toList.length = its.length) := by rw [Array.length_toList]; exact hkl
    have eR : PySem.W.EachIs (fun u (b : V × PyData) => RelV b.1 u) its (xs.zip ks) := eachIs_of (by rw [List.length_zip, hlen, hil, Nat.min_self]) fun i u b hu hb' => by
      obtain ⟨h1, h2⟩ := List.getElem?_zip_eq_some.mp hb'
      obtain ⟨u', h3, h4⟩ := rv.get h1
      rw [hu] at h3; cases h3; exact h4
    have eK : (xs.zip ks).map Prod.snd = ks := List.map_snd_zip (by omega)
    have ko : PySem.W.KeyedOut false ((xs.zip ks).map Prod.snd) its (PySem.W.sortVals (PySem.W.dataKind s'.heap ks) false kA.toList its) := ⟨s'.heap, kA.toList, by rw [eK]; exact hal, by rw [eK], by rw [eK]; exact each⟩
    have eo := PySem.W.keyedOut_each (R := fun u (b : V × PyData) => RelV b.1 u) Prod.snd ko eR
    have rvo : Vals (sortedBy xs ks) (PySem.W.sortVals (PySem.W.dataKind s'.heap ks) false kA.toList its) := vals_of_each (g := Prod.fst) eo
    have I4 : Inv X pins σ H' { s' with heap := h', toks := tk } := Inv.turnedL (ch := [kS, a]) I' (fun b o hb' e => kp b o (by simp at hb'; exact hb'.2) (PySem.W.hideAll_get [kS] e (by simp at hb'; simpa using hb'.1))) fun b hb' => by
      simp at hb'
      rcases hb' with e | e
      · rw [e]; exact fk
      · rw [e]; exact fa
    have hlo : (sortedBy xs ks).length ≤ sizeLine := by
      unfold sortedBy
      rw [List.length_map, List.length_mergeSort, List.length_zip]
      omega
    have I5 := inv_track (o := .lst (sortedBy xs ks)) I4 fa (Nat.le_trans I.sz hla) ⟨hlo, _, c', rvo, hout⟩
    exact ⟨.ref a, _, I5, rfl, q a _ (ex.tr (Evl.Ex.new fa.1)) (I.hok.fresh hla) upd_same⟩
end
end Fk
/-! defs that are called where no repr is under way -/
namespace Fk
open PySem PySem.Spec PyProof.Rows L2
structure FnOkG (P : Program) (w : World) (K : PySem.W.Frag) (mg : Str → Option Value) (base : Heap) (k : Nat) (f : Addr) (fd : FuncData) (ps : List Str) (sp : Sp) : Prop where
  len : ∀ vs H Q E, sp vs H Q E → vs.length = ps.length
  run : ∀ (A : Around) (outer : List Env) (s : Shared) (H : Hp) (args : Args) (us : List Value) (vs : List V) (Q : VK) (E : XK), A.guards = some [] → Room k A → Env0 P w K mg base A outer s H → BindsTo s fd args (ps.zip us) → Vals vs us → sp vs H Q E →
    codeAny (model P w) A (.call (.ref f) args) (CR CX0 outer P w H s Q E) s
section
variable {P : Program} {w : World} {K : PySem.W.Frag} {mg : Str → Option Value} {base : Heap}
theorem deeper_guards (A : Around) (env : Env) : (A.deeper env).guards = A.guards := rfl
theorem FnOkG.of {k : Nat} {f : Addr} {fd : FuncData} {ps : List Str} {sp : Sp} (F : FnOk P w K mg base CX0 k f fd ps sp) : FnOkG P w K mg base k f fd ps sp :=
  ⟨F.len, fun A outer s H args us vs Q E _ hr e0 hb rv h => F.run A outer s H args us vs Q E hr e0 hb rv h⟩
/-- a def's promise, by its body; its frame is at A.deeper .. -/
theorem okG {x qual : Str} {st : Stmt} {f : Addr} {fd : FuncData} {N ps : List Str} {k : Nat} {sp : Sp} (F : Fun K x qual st f fd) (S : FnScope N ps (defScope st)) (len : ∀ vs H Q E, sp vs H Q E → vs.length = ps.length)
    (hbody : ∀ (cdv : Value) (A : Around) (outer : List Env) (s : Shared) (H : Hp) (vs : List V) (Q : VK) (E : XK), A.guards = some [] → Room k (A.deeper (envOfC qual (defScope st) s.heap.objs.size f cdv)) → sp vs H Q E →
      ∃ t, PSs (cxOf CX0 P w K mg base N qual (defScope st) f cdv A outer s H E).nox (defBody st) t ∧ t { nx := fun _ H' => Q .non H', rt := Q } (L2.start N vs) H) : FnOkG P w K mg base (k + 1) f fd ps sp := by
  obtain ⟨oc, od, kV, doc, pm, an, cdv, ct, osl, rfl, lk, hcd⟩ := F.ex
  refine ⟨len, fun A outer s H args us vs Q E hg hr e0 hb rv hsp => ?_⟩
  -- for these A alone: a promise that asks nothing of other ones
  have KX : K.In s.heap := e0.mod.kin.keeps fun b o e => (e0.bs b o e).1
  have lim : s.heap.NoLimit := e0.mod.nolimit.keeps fun b o e => (e0.bs b o e).1
  have hl := len _ _ _ _ hsp
  have kinds : ∀ y ∈ ps.zip us, (defScope st).names.lookup y.1 = some .local ∨ ((defScope st).names.lookup y.1 = some .cell ∧ ((cellsFrom (s.heap.objs.size + 1) (defScope st).names []).lookup y.1).isSome = true) := by
    intro y hy
    obtain ⟨n, v⟩ := y
    cases S.par n (List.of_mem_zip hy).1 with
    | inl q => exact .inl q
    | inr q => exact .inr ⟨q, PySem.W.cellsFrom_some _ _ _ (.inl q)⟩
  refine codeAny_call_function hr.depth (KX _ _ lk) rfl S.co S.gen rfl (PySem.W.codeRec_of KX hcd) (hb _ _ _ _ ?_)
  refine wpAny_newFunctionEnv_cells S.kind kinds fun env he s1 x => ?_
  subst he
  refine ⟨lim.keeps x.toInCall.keep, codeAny_func ?_⟩
  obtain ⟨t, ht, hq⟩ := hbody cdv A outer s H vs Q E hg (hr.deeper _) hsp
  have I := inv_start (CX := CX0) (P := P) (w := w) (K := K) (mg := mg) (base := base) (E := E) S hr.hd e0 hl rv x
  refine wpAny_mono (ht.nox.run [] s1 (L2.start N vs) H _ I hq) (fun fl s' hs => ?_) fun e s' hs => hs
  cases fl with
  | ret u =>
    obtain ⟨v, σ', H', J, r, q⟩ := hs
    exact ⟨v, H', J.os, J.bare, J.base, J.hok, r, q⟩
  | next =>
    obtain ⟨σ', H', J, q⟩ := hs
    exact ⟨.non, H', J.os, J.bare, J.base, J.hok, rfl, q⟩
  | brk => obtain ⟨_, _, _, q⟩ := hs; exact q.elim
  | cont => obtain ⟨_, _, _, q⟩ := hs; exact q.elim
end
section
variable {X : Cx} {k : Nat} {f : Addr} {fd : FuncData} {ps : List Str} {sp : Sp} {x : Str} {p pos : Pos} {e : Expr} {es : List Expr} {t : TA}
/-- f(e, ..) of such a def -/
theorem pe_callG (F : FnOkG X.prog X.w X.K X.mg X.base k f fd ps sp) (hg : X.A.guards = some []) (hr : Room k X.A) (hgl : Gl X x) (hm : X.mg x = some (.ref f)) (hk : PySem.W.keepIn X.K (.ref f) = true) (hb : L2.Binds X.K fd ps []) (ha : PA X (e :: es) t)
    (hd : (x == ("__debug__" : Str)) = false := by decide) (he : starEach (e :: es) X.env = (false, eval e X.env) :: starEach es X.env := by rfl) (hpl : (backTo pos (starEach es X.env)).any (·.1) = false := by rfl) :
    PE X (.Call (.Name x p) (e :: es) [] pos) (tCall sp [] E0 t) := by
  refine ⟨fun pins s σ H Q I h => ?_⟩
  refine wpAny_Call_Name_kw (ld_glob I hgl hm ?_ hd)
  refine PySem.W.callWith_K (h₀ := X.base) I.ok.mod.kin hk (thn (ha.run pos pins s σ H _ I h) fun us s1 hh => ?_) he hpl
  obtain ⟨vs, H1, I1, r1, q1⟩ := hh
  rw [List.append_nil] at q1
  refine ⟨I1.kIn, ?_⟩
  have e0 : us ++ ([] : List Value) = us := List.append_nil us
  have hl : us.length = ps.length := by rw [← r1.length]; exact F.len _ _ _ _ q1
  have hbt := hb s1 us I1.kIn (by rw [e0]; exact hl)
  rw [e0] at hbt
  refine wpAny_call (codeAny_mono (F.run X.A X.stack s1 H1 ⟨us, []⟩ us vs Q E0 hg hr I1.env0 hbt r1 q1) fun r s' hq => ?_)
  cases r with
  | error e => exact (show False from hq).elim
  | ok fl =>
    cases fl with
    | ret u => exact I1.after hq
    | next => exact (show False from hq).elim
    | brk => exact (show False from hq).elim
    | cont => exact (show False from hq).elim
end
end Fk
/-! repr of data, where no repr is under way -/
namespace Fk
open PySem PySem.Spec PyProof.Rows L2
def rRepr (K : PySem.W.Frag) : List V → Hp → VK → Prop := fun vs H Q => ∃ v d, vs = [v] ∧ Dp K H v d ∧ ((∃ i, d = .int i) ∨ (∃ ds, d = .list ds) ∨ ∃ ds, d = .tuple ds) ∧ SeqAt.shaped d = true ∧ d.showable = true ∧ d.shown.length ≤ sizeLine ∧ Q (.str d.shown) H
theorem depth_shaped {d : PyData} (h : SeqAt.shaped d = true) : d.depth ≤ 64 := by
  have h : (d.canLay0 && decide (d.depth ≤ 64)) = true := h
  rw [Bool.and_eq_true] at h
  exact of_decide_eq_true h.2
theorem cr_repr {X : Cx} {k : Nat} (hg : X.A.guards = some []) (hr : Room k X.A) : CallR X (.builtin "repr") (rRepr X.K) := by
  intro pins s σ H vs us Q I r h
  obtain ⟨v, d, rfl, hd, hform, hsh, hsw, hlen, q⟩ := h
  have hun := hr.un
  have hdep := depth_shaped hsh
  obtain ⟨u, rfl, ru⟩ := vals1 r
  have big : ∀ a, v = .ref a → wpAny (model X.prog X.w) X.A (call (.builtin "repr") [u]) (EP X pins σ Q) X.xe s := by
    rintro a rfl
    cases ru
    obtain ⟨as, rd⟩ := Dp.reads I d (.ref a) (.ref a) hd rfl
    have hnd : d.hasDict = false := PyData.hasDict_of_canLay d (SeqAt.canLay_of_shaped hsh)
    refine repr_of_reads' (h₀ := s.heap) rd hsw (fun z => by rw [hnd] at z; cases z) hg (by omega) (fun _ _ e => e) (fun h' t tk hk => ?_) hlen
    exact ⟨.str d.shown, H, I.kept hk, ⟨t, rfl⟩, q⟩
  rcases hform with ⟨i, rfl⟩ | ⟨ds, rfl⟩ | ⟨ds, rfl⟩
  · obtain rfl := dp_int hd
    have e : (PyData.int i).shown = toString i := by simp only [PyData.shown]
    rw [e] at q
    refine SkE.call_repr_int pins s σ H [.int i] [u] Q I (.cons ru .nil) ⟨i, rfl, ?_, q⟩
    simpa [PyData.showable] using hsw
  · obtain ⟨a, xs, rfl, _⟩ := dp_lst hd
    exact big a rfl
  · obtain ⟨a, xs, rfl, _⟩ := dp_tup hd
    exact big a rfl
/-! small data: ints below a million, tuples and lists of these -/
mutual
def smallI : PyData → Bool
  | .int i => decide (i.natAbs < 1000000)
  | .tuple ds => smallIs ds
  | .list ds => smallIs ds
  | .none => false
  | .bool _ => false
  | .str _ => false
  | .dict _ => false
def smallIs : List PyData → Bool
  | [] => true
  | d :: ds => smallI d && smallIs ds
end
theorem smallIs_iff : ∀ {ds : List PyData}, smallIs ds = true ↔ ∀ d ∈ ds, smallI d = true
  | [] => by simp [smallIs]
  | d :: ds => by simp [smallIs, smallIs_iff (ds := ds)]
theorem log2_small {n : Nat} (h : n < 1000000) : n.log2 < 1920 := by
  rcases Nat.eq_zero_or_pos n with z | z
  · subst z; decide
  · have h1 : n.log2 < 20 := (Nat.log2_lt (by omega)).mpr (by omega)
    omega
mutual
theorem smallI_ok : ∀ d : PyData, smallI d = true → d.canLay0 = true ∧ d.showable = true ∧ d.leavesShort 13 = true
  | .int i, h => by
    have h : i.natAbs < 1000000 := by simpa [smallI] using h
    refine ⟨by simp [PyData.canLay0], by simp [PyData.showable]; exact log2_small h, ?_⟩
    simp only [PyData.leavesShort, decide_eq_true_eq]
    exact PyData.shown_int_le (by omega)
  | .tuple ds, h => by
    obtain ⟨h1, h2, h3⟩ := smallIs_ok ds (by simpa [smallI] using h)
    exact ⟨by simpa [PyData.canLay0] using h1, by simpa [PyData.showable] using h2, by simpa [PyData.leavesShort] using h3⟩
  | .list ds, h => by
    obtain ⟨h1, h2, h3⟩ := smallIs_ok ds (by simpa [smallI] using h)
    exact ⟨by simpa [PyData.canLay0] using h1, by simpa [PyData.showable] using h2, by simpa [PyData.leavesShort] using h3⟩
  | .none, h => by simp [smallI] at h
  | .bool _, h => by simp [smallI] at h
  | .str _, h => by simp [smallI] at h
  | .dict _, h => by simp [smallI] at h
theorem smallIs_ok : ∀ ds : List PyData, smallIs ds = true → PyData.canLayAll0 ds = true ∧ PyData.showableAll ds = true ∧ PyData.leavesShortAll 13 ds = true
  | [], _ => ⟨by simp [PyData.canLayAll0], by simp [PyData.showableAll], by simp [PyData.leavesShortAll]⟩
  | d :: ds, h => by
    have h' : smallI d = true ∧ smallIs ds = true := by simpa [smallIs] using h
    obtain ⟨a1, a2, a3⟩ := smallI_ok d h'.1
    obtain ⟨b1, b2, b3⟩ := smallIs_ok ds h'.2
    exact ⟨by simp [PyData.canLayAll0, a1, b1], by simp [PyData.showableAll, a2, b2], by simp [PyData.leavesShortAll, a3, b3]⟩
end
/-- small, not deep, not long -/
def okD (d : PyData) : Bool := smallI d && decide (d.depth ≤ 60) && decide (d.weight ≤ 1000000)
theorem okD_iff {d : PyData} : okD d = true ↔ smallI d = true ∧ d.depth ≤ 60 ∧ d.weight ≤ 1000000 := by
  unfold okD
  rw [Bool.and_eq_true, Bool.and_eq_true, decide_eq_true_eq, decide_eq_true_eq, and_assoc]
theorem okD_shaped {d : PyData} (h : okD d = true) : SeqAt.shaped d = true := by
  obtain ⟨h1, h2, _⟩ := okD_iff.mp h
  show (d.canLay0 && decide (d.depth ≤ 64)) = true
  rw [(smallI_ok d h1).1, Bool.true_and]
  exact decide_eq_true (by omega)
theorem okD_shown {d : PyData} (h : okD d = true) : d.showable = true ∧ d.shown.length ≤ sizeLine := by
  obtain ⟨h1, _, h3⟩ := okD_iff.mp h
  exact ⟨(smallI_ok d h1).2.1, PyData.shown_fits (B := 13) (by omega) (by omega) (smallI_ok d h1).2.2 (by omega)⟩
section
variable {K : PySem.W.Frag} {d : PyData} {ds : List PyData} {i : Int}
theorem rc_reprL (h : okD (.list ds) = true) : RC K (rRepr K) [.list ds] (.str (PyData.shown (.list ds))) := fun vs H hh Q q => by
  obtain ⟨v, rfl, hv⟩ := one_dp hh
  exact ⟨v, _, rfl, hv, .inr (.inl ⟨ds, rfl⟩), okD_shaped h, (okD_shown h).1, (okD_shown h).2, q _ H Ex.rf (.str _)⟩
theorem okD_int (h : i.natAbs < 1000000) : okD (.int i) = true := okD_iff.mpr ⟨by simp [smallI]; exact h, by simp [PyData.depth], by
  have h1 := log2_small h
  simp only [PyData.weight]
  split <;> omega⟩
theorem rc_reprI (h : i.natAbs < 1000000) : RC K (rRepr K) [.int i] (.str (PyData.shown (.int i))) := fun vs H hh Q q => by
  obtain ⟨v, rfl, hv⟩ := one_dp hh
  have hk := okD_int h
  exact ⟨v, _, rfl, hv, .inl ⟨i, rfl⟩, okD_shaped hk, (okD_shown hk).1, (okD_shown hk).2, q _ H Ex.rf (.str _)⟩
end
end Fk
/-! statements: what is known of the slots before and after -/
namespace Fk
open PySem PySem.Spec PyProof.Rows L2
/-- a word that hangs on the objects of S and on tuples alone -/
class ZK (S : Addr → Prop) (Z : Hp → Prop) : Prop where
  st : ∀ {H H' : Hp}, Z H → (∀ a o, H a = some o → (S a ∨ isT o = true) → H' a = some o) → Z H'
  ne : ∀ {H : Hp} {a : Addr}, Z H → S a → H a ≠ none
abbrev S0 : Addr → Prop := fun _ => False
abbrev Z0 : Hp → Prop := fun _ => True
instance zk0 : ZK S0 Z0 := ⟨fun _ _ => trivial, fun _ h => h.elim⟩
structure At (K : PySem.W.Frag) (B : Hp) (S : Addr → Prop) (Z : Hp → Prop) (ρ : List Sl) (σ : L2.St) (H : Hp) : Prop where
  eb : Ex B H
  z : Z H
  ok : EnvOk K B H σ ρ
def adrs : List Sl → List Addr
  | [] => []
  | .l p _ :: ρ => p :: adrs ρ
  | .o p _ :: ρ => p :: adrs ρ
  | .un :: ρ => adrs ρ
  | .d _ :: ρ => adrs ρ
  | .r _ :: ρ => adrs ρ
  | .t _ :: ρ => adrs ρ
  | .k p _ _ _ :: ρ => p :: adrs ρ
section
variable {K : PySem.W.Frag} {B H H' : Hp} {S : Addr → Prop} {Z : Hp → Prop} {ρ ρ' : List Sl} {σ : L2.St} {ta tb te tl : TE} {t u : TT} {x y z d : PyData} {ds es : List PyData} {tu tv tz : TS} {D : Ends}
theorem adr_some : ∀ {σ : L2.St} {ρ : List Sl}, EnvOk K B H σ ρ → ∀ q ∈ adrs ρ, H q ≠ none
  | [], [], _, q, hq => by simp [adrs] at hq
  | _ :: _, s :: ρ, h, q, hq => by
    have ih := adr_some h.2 q
    have h1 := h.1
    cases s with
    | l p ds =>
      rcases List.mem_cons.mp hq with e | hq
      · obtain ⟨_, vs, h2, _⟩ := h1
        rw [e, h2]; simp
      · exact ih hq
    | o p u =>
      rcases List.mem_cons.mp hq with e | hq
      · rw [e, h1.2]; simp
      · exact ih hq
    | un => exact ih hq
    | d d => exact ih hq
    | r d => exact ih hq
    | t d => exact ih hq
    | k p P w es =>
      rcases List.mem_cons.mp hq with e | hq
      · obtain ⟨_, xs, ep, h2, _⟩ := h1
        rw [e, h2]; simp
      · exact ih hq
  | [], _ :: _, h, _, _ => h.elim
  | _ :: _, [], h, _, _ => h.elim
theorem At.ex [zk : ZK S Z] (a : At K B S Z ρ σ H) (e : Ex H H') : At K B S Z ρ σ H' := ⟨a.eb.tr e, zk.st a.z fun b o h _ => e b o h, a.ok.ex e⟩
theorem At.set {i : Nat} {s : Sl} {o : Option V} (a : At K B S Z ρ σ H) (h : SlotOk K B H o s) : At K B S Z (ρ.set i s) (σ.set i o) H := ⟨a.eb, a.z, a.ok.set h i⟩
theorem At.upd [zk : ZK S Z] {p : Addr} {u o : HO} {s' : Sl} (a : At K B S Z ρ σ H) (hp : H p = some u) (hu : isT u = false) (hB : B p = none) (hS : ¬ S p) (hs : SlotOk K B (upd H p o) (some (.ref p)) s') : At K B S Z (ρ.map (putL p s')) σ (upd H p o) := by
  refine ⟨fun b w h => ?_, zk.st a.z fun b w h hb => ?_, a.ok.upd hp hu hB hs⟩
  · have ne : b ≠ p := by
      rintro rfl
      rw [hB] at h; cases h
    rw [upd_ne ne]; exact a.eb b w h
  · have ne : b ≠ p := by
      rintro rfl
      rcases hb with hb | hb
      · exact hS hb
      · rw [hp] at h; cases h; rw [hu] at hb; cases hb
    rw [upd_ne ne]; exact h
/-- a new object is none of the known ones -/
structure New (B : Hp) (S : Addr → Prop) (ρ : List Sl) (p : Addr) : Prop where
  b : B p = none
  s : ¬ S p
  a : ∀ q ∈ adrs ρ, q ≠ p
theorem At.new [zk : ZK S Z] {p : Addr} (a : At K B S Z ρ σ H) (hp : H p = none) : New B S ρ p := ⟨Evl.fresh_back a.eb hp, fun h => zk.ne a.z h hp, fun q hq e => adr_some a.ok q hq (e ▸ hp)⟩

/-! ### a statement from ρ -/
def TrR (K : PySem.W.Frag) (B : Hp) (S : Addr → Prop) (Z : Hp → Prop) (t : TS) (ρ : List Sl) (D : Ends) : Prop := ∀ σ H, At K B S Z ρ σ H → t D σ H
def lf (K : PySem.W.Frag) (B : Hp) (S : Addr → Prop) (Z : Hp → Prop) (P : List Sl → Prop) : L2.St → Hp → Prop := fun σ H => ∃ ρ, P ρ ∧ At K B S Z ρ σ H
variable [zk : ZK S Z]
theorem tr_is (h : TrR K B S Z tu ρ' D) (e : ρ' = ρ) : TrR K B S Z tu ρ D := e ▸ h
theorem q_next (h : TrR K B S Z tz ρ D) : TrR K B S Z (tSeq tNext tz) ρ D := h
theorem q_asg {i : Nat} (h : EvD K B te ρ d) (nd : noL d = true) (k : TrR K B S Z tz (ρ.set i (.d d)) D) : TrR K B S Z (tSeq (tAsg te (gName i)) tz) ρ D := fun σ H a =>
  h σ H a.eb a.ok _ fun v H1 e h1 => k _ _ ((a.ex e).set ⟨v, rfl, .inr ⟨nd, h1⟩⟩)
theorem q_asgT {i : Nat} (h : EvD K B te ρ d) (k : TrR K B S Z tz (ρ.set i (.t d)) D) : TrR K B S Z (tSeq (tAsg te (gName i)) tz) ρ D := fun σ H a =>
  h σ H a.eb a.ok _ fun v H1 e h1 => k _ _ ((a.ex e).set ⟨v, rfl, h1⟩)
theorem q_asgL {i : Nat} (h : EvL K B te ρ ds) (nd : noLs ds = true) (k : ∀ p, New B S ρ p → TrR K B S Z tz (ρ.set i (.l p ds)) D) : TrR K B S Z (tSeq (tAsg te (gName i)) tz) ρ D := fun σ H a =>
  h σ H a.eb a.ok _ fun p vs H1 e hp h1 h2 => k p (a.new hp) _ _ ((a.ex e).set ⟨rfl, vs, h1, h2, nd⟩)
theorem q_ret (h : EvD K B te ρ d) (k : ∀ v H', Ex B H' → Z H' → Dp K H' v d → D.rt v H') : TrR K B S Z (tSeq (tRet te) tz) ρ D := fun σ H a =>
  h σ H a.eb a.ok _ fun v H1 e h1 => k v H1 (a.eb.tr e) (a.ex e).z h1
theorem q_retL (h : EvL K B te ρ ds) (k : ∀ p vs H', Ex B H' → Z H' → B p = none → H' p = some (.lst vs) → DpAll K H' vs ds → D.rt (.ref p) H') : TrR K B S Z (tSeq (tRet te) tz) ρ D := fun σ H a =>
  h σ H a.eb a.ok _ fun p vs H1 e hp h1 h2 => k p vs H1 (a.eb.tr e) (a.ex e).z (a.new hp).b h1 h2
theorem q_if {b : Bool} (h : EvT K B t ρ b) (h1 : b = true → TrR K B S Z tu ρ { D with nx := tz D }) (h2 : b = false → TrR K B S Z tv ρ { D with nx := tz D }) : TrR K B S Z (tSeq (tIfS t tu tv) tz) ρ D := fun σ H a =>
  h σ H a.eb a.ok _ fun H1 e => by
    cases b with
    | true => exact h1 rfl _ _ (a.ex e)
    | false => exact h2 rfl _ _ (a.ex e)
theorem q_end (h : ∀ σ H, At K B S Z ρ σ H → D.nx σ H) : TrR K B S Z tNext ρ D := h
theorem q_lf {P : List Sl → Prop} {rt : VK} {bk ct : L2.St → Hp → Prop} (h : P ρ) : TrR K B S Z tNext ρ ⟨lf K B S Z P, rt, bk, ct⟩ := fun σ H a => ⟨ρ, h, a⟩
theorem q_drop (h : EvD K B te ρ d) (k : TrR K B S Z tz ρ D) : TrR K B S Z (tSeq (tDrop te) tz) ρ D := fun σ H a =>
  h σ H a.eb a.ok _ fun v H1 e h1 => k _ _ (a.ex e)
/-- xs.append(e) -/
theorem q_app {i : Nat} {p : Addr} (hi : ρ[i]? = some (.l p ds)) (h : EvD K B te ρ d) (nd : noL d = true) (hB : B p = none) (hS : ¬ S p) (hl : ds.length < 100000) (hρ : ρ.map (putL p (.l p (ds ++ [d]))) = ρ') (k : TrR K B S Z tz ρ' D) :
    TrR K B S Z (tSeq (tDrop (tBM K "list" rAppend (tVar i) (tCons te tNil))) tz) ρ D := fun σ H a => by
  obtain ⟨e1, xs, h1, h2, h3⟩ := a.ok.l hi
  refine ⟨_, e1, Or.inl ⟨rfl, xs, SqL.of h1⟩, h σ H a.eb a.ok _ fun v H1 e hv => ⟨p, xs, v, rfl, rfl, e _ _ h1, Evl.sz_lt (by rw [dps_len h2]; exact hl), ?_⟩⟩
  have tx : TX H1 (upd H1 p (.lst (xs ++ [v]))) := TX.upd (e _ _ h1) rfl
  have h4 := (a.ex e).upd (o := .lst (xs ++ [v])) (s' := .l p (ds ++ [d])) (e _ _ h1) rfl hB hS ⟨rfl, _, upd_same, dps_app (dps_tx tx _ _ h3 (dps_ex e _ _ h2)) (.cons (dp_tx tx _ _ nd hv) .nil), by
    rw [noLs_iff] at h3 ⊢
    intro c hc
    rcases List.mem_append.mp hc with hc | hc
    · exact h3 c hc
    · rw [List.mem_singleton.mp hc]; exact nd⟩
  rw [hρ] at h4
  exact k _ _ h4
/-- xs.extend(ys), ys a new list -/
theorem q_ext {i : Nat} {p : Addr} (hi : ρ[i]? = some (.l p ds)) (h : EvL K B te ρ es) (nd : noLs es = true) (hB : B p = none) (hS : ¬ S p) (hl : ds.length + es.length ≤ 100000) (hρ : ρ.map (putL p (.l p (ds ++ es))) = ρ') (k : TrR K B S Z tz ρ' D) :
    TrR K B S Z (tSeq (tDrop (tBM K "list" rExtend (tVar i) (tCons te tNil))) tz) ρ D := fun σ H a => by
  obtain ⟨e1, xs, h1, h2, h3⟩ := a.ok.l hi
  refine ⟨_, e1, Or.inl ⟨rfl, xs, SqL.of h1⟩, h σ H a.eb a.ok _ fun q ys H1 e hp hq hy => ⟨p, q, xs, ys, rfl, rfl, e _ _ h1, hq, Evl.sz_of (by rw [dps_len h2, dps_len hy]; exact hl), ?_⟩⟩
  have tx : TX H1 (upd H1 p (.lst (xs ++ ys))) := TX.upd (e _ _ h1) rfl
  have h4 := (a.ex e).upd (o := .lst (xs ++ ys)) (s' := .l p (ds ++ es)) (e _ _ h1) rfl hB hS ⟨rfl, _, upd_same, dps_app (dps_tx tx _ _ h3 (dps_ex e _ _ h2)) (dps_tx tx _ _ nd hy), by
    rw [noLs_iff] at h3 nd ⊢
    intro c hc
    rcases List.mem_append.mp hc with hc | hc
    · exact h3 c hc
    · exact nd c hc⟩
  rw [hρ] at h4
  exact k _ _ h4
end
end Fk
/-! for, while -/
namespace Fk
open PySem PySem.Spec PyProof.Rows L2
section
variable {K : PySem.W.Frag} {B H H' : Hp} {S : Addr → Prop} {Z : Hp → Prop} {ρ ρ' : List Sl} {σ : L2.St} {ta tb te tl : TE} {t u : TT} {x y z d : PyData} {ds es : List PyData} {tu tv tz : TS} {D : Ends}
variable [zk : ZK S Z]
/-- what a loop's body is to reach -/
abbrev inLoop (K : PySem.W.Frag) (B : Hp) (S : Addr → Prop) (Z : Hp → Prop) (P : List Sl → Prop) (D : Ends) (tz : TS) : Ends := { nx := lf K B S Z P, rt := D.rt, bk := tz D, ct := lf K B S Z P }
omit zk in
theorem sd {v : V} (n : noL d = true) (h : Dp K H v d) : SlotOk K B H (some v) (.d d) := ⟨v, rfl, .inr ⟨n, h⟩⟩
/-- a target that takes what is d -/
def GT (K : PySem.W.Frag) (B : Hp) (S : Addr → Prop) (Z : Hp → Prop) (g : TG) (ρ : List Sl) (d : PyData) (ρ2 : List Sl) : Prop := ∀ σ H v, At K B S Z ρ σ H → Dp K H v d → ∀ Q : L2.St → Hp → Prop, (∀ σ2, At K B S Z ρ2 σ2 H → Q σ2 H) → g v σ H Q
omit zk in
theorem gt_name {j : Nat} (n : noL d = true) : GT K B S Z (gName j) ρ d (ρ.set j (.d d)) := fun σ H v a h Q q => q _ (a.set (sd n h))
omit zk in
theorem gt_tup2 {i j : Nat} (n : noL x = true) (m : noL y = true) : GT K B S Z (gTup K 2 (gCons (gName i) (gCons (gName j) gNil))) ρ (.tuple [x, y]) ((ρ.set i (.d x)).set j (.d y)) := fun σ H v a h Q q => by
  obtain ⟨p, xs, rfl, hs, ha⟩ := dp_tup h
  obtain ⟨v1, v2, rfl, h1, h2⟩ := two_dp ha
  exact ⟨p, _, rfl, hs, rfl, _, _, rfl, _, _, rfl, rfl, q _ ((a.set (i := i) (sd n h1)).set (i := j) (sd m h2))⟩
omit zk in
theorem gt_lst3 {i j l : Nat} {w : PyData} (n : noL x = true) (m : noL y = true) (o : noL w = true) : GT K B S Z (gLst K 3 (gCons (gName i) (gCons (gName j) (gCons (gName l) gNil)))) ρ (.list [x, y, w]) (((ρ.set i (.d x)).set j (.d y)).set l (.d w)) := fun σ H v a h Q q => by
  obtain ⟨p, xs, rfl, hs, ha⟩ := dp_lst h
  cases ha with
  | cons h1 hr =>
    obtain ⟨v2, v3, rfl, h2, h3⟩ := two_dp hr
    exact ⟨p, _, rfl, hs, rfl, _, _, rfl, _, _, rfl, _, _, rfl, rfl, q _ (((a.set (i := i) (sd n h1)).set (i := j) (sd m h2)).set (i := l) (sd o h3))⟩
omit zk in
theorem gt_tup3 {i j l : Nat} {w : PyData} (n : noL x = true) (m : noL y = true) (o : noL w = true) : GT K B S Z (gTup K 3 (gCons (gName i) (gCons (gName j) (gCons (gName l) gNil)))) ρ (.tuple [x, y, w]) (((ρ.set i (.d x)).set j (.d y)).set l (.d w)) := fun σ H v a h Q q => by
  obtain ⟨p, xs, rfl, hs, ha⟩ := dp_tup h
  cases ha with
  | cons h1 hr =>
    obtain ⟨v2, v3, rfl, h2, h3⟩ := two_dp hr
    exact ⟨p, _, rfl, hs, rfl, _, _, rfl, _, _, rfl, _, _, rfl, rfl, q _ (((a.set (i := i) (sd n h1)).set (i := j) (sd m h2)).set (i := l) (sd o h3))⟩
/-- x, y = e -/
theorem q_unp {g : TG} {ρ2 : List Sl} (h : EvD K B te ρ d) (hg : GT K B S Z g ρ d ρ2) (k : TrR K B S Z tz ρ2 D) : TrR K B S Z (tSeq (tAsg te g) tz) ρ D := fun σ H a =>
  h σ H a.eb a.ok _ fun v H1 e h1 => hg _ _ v (a.ex e) h1 _ fun σ2 a2 => k _ _ a2
/-- over a tuple of data without lists -/
theorem q_forT {α : Type} {xs : List α} {enc : α → PyData} {g : TG} {tb : TS} {ρn : List Sl → α → List Sl} (h : EvD K B tl ρ (.tuple (xs.map enc))) (hx : ∀ a ∈ xs, noL (enc a) = true) (P : Nat → List Sl → Prop) (h0 : P 0 ρ)
    (hg : ∀ (Z' : Hp → Prop) (ρ' : List Sl), ∀ a ∈ xs, GT K B S Z' g ρ' (enc a) (ρn ρ' a))
    (hb : ∀ (Z' : Hp → Prop) [ZK S Z'], (∀ H, Z' H → Z H) → ∀ i a ρ', xs[i]? = some a → P i ρ' → TrR K B S Z' tb (ρn ρ' a) (inLoop K B S Z' (P (i + 1)) D tz))
    (k : ∀ ρ', P xs.length ρ' → TrR K B S Z tz ρ' D) : TrR K B S Z (tSeq (tFor (iTup K tl) g tb) tz) ρ D := fun σ H a =>
  h σ H a.eb a.ok _ fun v H1 e h1 => by
    obtain ⟨b, ys, rfl, hs, hd⟩ := dp_tup h1
    have hno : noLs (xs.map enc) = true := noLs_map hx
    let Z' : Hp → Prop := fun H => Z H ∧ SqT K H b ys ∧ DpAll K H ys (xs.map enc)
    have zk' : ZK S Z' := ⟨fun {H H'} z q => ⟨zk.st z.1 q, (show TX H H' from fun c zs r => by
        rcases r with r | ⟨ob, r⟩
        · exact .inl (q c _ r (.inr rfl))
        · exact .inr ⟨ob, q c _ r (.inr rfl)⟩).sq z.2.1, dps_tx (fun c zs r => by
        rcases r with r | ⟨ob, r⟩
        · exact .inl (q c _ r (.inr rfl))
        · exact .inr ⟨ob, q c _ r (.inr rfl)⟩) _ _ hno z.2.2⟩, fun z s => zk.ne z.1 s⟩
    have hyl : ys.length = xs.length := by rw [dps_len hd, List.length_map]
    have a1 := a.ex e
    refine ⟨b, rfl, ⟨ys, hs⟩, ?_⟩
    refine for_tup (K := K) (a := b) (xs := ys) (fun i σ H => lf K B S Z' (P i) σ H) ⟨ρ, h0, a1.eb, ⟨a1.z, hs, hd⟩, a1.ok⟩ (fun i σ H _ p => ?_) (fun i y σ H hy p => ?_) fun σ H p => ?_
    · obtain ⟨ρ', _, a'⟩ := p
      exact a'.z.2.1
    · obtain ⟨ρ', p, a'⟩ := p
      obtain ⟨d, hd', hyd⟩ := dps_get a'.z.2.2 hy
      rw [List.getElem?_map] at hd'
      cases hxi : xs[i]? with
      | none => rw [hxi] at hd'; simp at hd'
      | some c =>
        rw [hxi] at hd'
        obtain rfl : enc c = d := by simpa using hd'
        exact hg Z' ρ' c (List.mem_of_getElem? hxi) _ _ y a' hyd _ fun σ2 a2 => hb Z' (fun H z => z.1) i c ρ' hxi p _ _ a2
    · obtain ⟨ρ', p, a'⟩ := p
      rw [hyl] at p
      exact k ρ' p _ _ ⟨a'.eb, a'.z.1, a'.ok⟩
/-- over range(n) -/
theorem q_forR {n j : Nat} {ta : TA} {tb : TS} (h : EvA K B ta ρ [.int (n : Int)]) (hn : n ≤ 100000) (P : Nat → List Sl → Prop) (h0 : P 0 ρ)
    (hb : ∀ i ρ', i < n → P i ρ' → TrR K B S Z tb (ρ'.set j (.d (.int (i : Int)))) (inLoop K B S Z (P (i + 1)) D tz))
    (k : ∀ ρ', P n ρ' → TrR K B S Z tz ρ' D) : TrR K B S Z (tSeq (tFor (iRng1 ta) (gName j) tb) tz) ρ D := fun σ H a =>
  h σ H a.eb a.ok _ fun vs H1 e h1 => by
    have hvs : vs = [.int (n : Int)] := by
      obtain ⟨v, rfl, hv⟩ := one_dp h1
      rw [dp_int hv]
    refine ⟨(n : Int), hvs, by omega, by omega, ?_⟩
    have htn : ((n : Int)).toNat = n := Int.toNat_natCast n
    rw [htn]
    refine for_range (lo := 0) (n := n) (fun i σ H => lf K B S Z (P i) σ H) ⟨ρ, h0, a.ex e⟩ (fun i σ H hi p => ?_) fun σ H p => ?_
    · obtain ⟨ρ', p, a'⟩ := p
      have e0 : (0 : Int) + (i : Int) = (i : Int) := Int.zero_add _
      rw [e0]
      exact hb i ρ' hi p _ _ (a'.set ⟨_, rfl, .inr ⟨rfl, .int _⟩⟩)
    · obtain ⟨ρ', p, a'⟩ := p
      exact k ρ' p _ _ a'
/-- the list at p, held fast -/
theorem for_held {α : Type} {xs : List α} {enc : α → PyData} {g : TG} {tb : TS} {ρn : List Sl → α → List Sl} {p : Addr} {vs : List V} {H1 : Hp} (a : At K B S Z ρ σ H1) (hp : H1 p = some (.lst vs)) (hd : DpAll K H1 vs (xs.map enc)) (hx : ∀ a ∈ xs, noL (enc a) = true) (P : Nat → List Sl → Prop) (h0 : P 0 ρ)
    (hg : ∀ (S' : Addr → Prop) (Z' : Hp → Prop) (ρ' : List Sl), ∀ a ∈ xs, GT K B S' Z' g ρ' (enc a) (ρn ρ' a))
    (hb : ∀ (S' : Addr → Prop) (Z' : Hp → Prop) [ZK S' Z'], (∀ q, S' q → S q ∨ q = p) → (∀ q, S q → S' q) → (∀ H, Z' H → Z H) → ∀ i a ρ', xs[i]? = some a → P i ρ' → TrR K B S' Z' tb (ρn ρ' a) (inLoop K B S' Z' (P (i + 1)) D tz))
    (k : ∀ ρ', P xs.length ρ' → TrR K B S Z tz ρ' D) : ∃ W : Nat → Nat → L2.St → Hp → Prop, (∃ m, W 0 m σ H1) ∧ ∀ i m σ H, W i m σ H →
      ((Itl K p).stop i H ∧ tz D σ H) ∨ ((Itl K p).go i H ∧ ∃ N : L2.St → Hp → Prop, (∀ σ' H', N σ' H' → ∃ m', m' < m ∧ W (i + 1) m' σ' H') ∧ ∀ x H', (Itl K p).yld i H x H' → g x σ H' fun σ2 H2 => tb { nx := N, rt := D.rt, bk := tz D, ct := N } σ2 H2) := by
  have hno : noLs (xs.map enc) = true := noLs_map hx
  let S' : Addr → Prop := fun q => S q ∨ q = p
  let Z' : Hp → Prop := fun H => Z H ∧ H p = some (.lst vs) ∧ DpAll K H vs (xs.map enc)
  have zk' : ZK S' Z' := ⟨fun {H H'} z q => ⟨zk.st z.1 fun b o h hb => q b o h (hb.imp .inl id), q _ _ z.2.1 (.inl (.inr rfl)), dps_tx (fun c zs r => by
      rcases r with r | ⟨ob, r⟩
      · exact .inl (q c _ r (.inr rfl))
      · exact .inr ⟨ob, q c _ r (.inr rfl)⟩) _ _ hno z.2.2⟩, fun z s => by
      rcases s with s | rfl
      · exact zk.ne z.1 s
      · rw [z.2.1]; simp⟩
  have hyl : vs.length = xs.length := by rw [dps_len hd, List.length_map]
  refine for_list (K := K) (a := p) (xs := vs) (D := { nx := tz D, rt := D.rt, bk := tz D, ct := D.ct }) (fun i σ H => lf K B S' Z' (P i) σ H) ⟨ρ, h0, a.eb, ⟨a.z, hp, hd⟩, a.ok⟩ (fun i σ H _ q => ?_) (fun i y σ H hy q => ?_) fun σ H q => ?_
  · obtain ⟨ρ', _, a'⟩ := q
    exact SqL.of a'.z.2.1
  · obtain ⟨ρ', q, a'⟩ := q
    obtain ⟨d, hd', hyd⟩ := dps_get a'.z.2.2 hy
    rw [List.getElem?_map] at hd'
    cases hxi : xs[i]? with
    | none => rw [hxi] at hd'; simp at hd'
    | some c =>
      rw [hxi] at hd'
      obtain rfl : enc c = d := by simpa using hd'
      exact hg S' Z' ρ' c (List.mem_of_getElem? hxi) _ _ y a' hyd _ fun σ2 a2 => hb S' Z' (fun q h => h) (fun q h => .inl h) (fun H z => z.1) i c ρ' hxi q _ _ a2
  · obtain ⟨ρ', q, a'⟩ := q
    rw [hyl] at q
    exact k ρ' q _ _ ⟨a'.eb, a'.z.1, a'.ok⟩
/-- over a new list of data without lists -/
theorem q_forN {α : Type} {xs : List α} {enc : α → PyData} {g : TG} {tb : TS} {ρn : List Sl → α → List Sl} (h : EvL K B tl ρ (xs.map enc)) (hx : ∀ a ∈ xs, noL (enc a) = true) (P : Nat → List Sl → Prop) (h0 : P 0 ρ)
    (hg : ∀ (S' : Addr → Prop) (Z' : Hp → Prop) (ρ' : List Sl), ∀ a ∈ xs, GT K B S' Z' g ρ' (enc a) (ρn ρ' a))
    (hb : ∀ p, New B S ρ p → ∀ (S' : Addr → Prop) (Z' : Hp → Prop) [ZK S' Z'], (∀ q, S' q → S q ∨ q = p) → (∀ q, S q → S' q) → (∀ H, Z' H → Z H) → ∀ i a ρ', xs[i]? = some a → P i ρ' → TrR K B S' Z' tb (ρn ρ' a) (inLoop K B S' Z' (P (i + 1)) D tz))
    (k : ∀ ρ', P xs.length ρ' → TrR K B S Z tz ρ' D) : TrR K B S Z (tSeq (tFor (iList K tl) g tb) tz) ρ D := fun σ H a =>
  h σ H a.eb a.ok _ fun p vs H1 e hp h1 h2 => ⟨p, rfl, ⟨vs, SqL.of h1⟩, for_held (a.ex e) h1 h2 hx P h0 hg (hb p (a.new hp)) k⟩
/-- over a list that a slot holds -/
theorem q_forV {α : Type} {xs : List α} {enc : α → PyData} {g : TG} {tb : TS} {ρn : List Sl → α → List Sl} {i : Nat} {p : Addr} (h : ρ[i]? = some (.l p (xs.map enc))) (hx : ∀ a ∈ xs, noL (enc a) = true) (P : Nat → List Sl → Prop) (h0 : P 0 ρ)
    (hg : ∀ (S' : Addr → Prop) (Z' : Hp → Prop) (ρ' : List Sl), ∀ a ∈ xs, GT K B S' Z' g ρ' (enc a) (ρn ρ' a))
    (hb : ∀ (S' : Addr → Prop) (Z' : Hp → Prop) [ZK S' Z'], (∀ q, S' q → S q ∨ q = p) → (∀ q, S q → S' q) → (∀ H, Z' H → Z H) → ∀ i a ρ', xs[i]? = some a → P i ρ' → TrR K B S' Z' tb (ρn ρ' a) (inLoop K B S' Z' (P (i + 1)) D tz))
    (k : ∀ ρ', P xs.length ρ' → TrR K B S Z tz ρ' D) : TrR K B S Z (tSeq (tFor (iList K (tVar i)) g tb) tz) ρ D := fun σ H a => by
  obtain ⟨e1, vs, h1, h2, h3⟩ := a.ok.l h
  exact ⟨_, e1, p, rfl, ⟨vs, SqL.of h1⟩, for_held a h1 h2 hx P h0 hg hb k⟩
/-- over a list of what is fixed (a parameter) -/
theorem q_forB {α : Type} {xs : List α} {enc : α → PyData} {tb : TS} {i j : Nat} (h : ρ[i]? = some (.d (.list (xs.map enc)))) (P : Nat → List Sl → Prop) (h0 : P 0 ρ)
    (hb : ∀ i a ρ', xs[i]? = some a → P i ρ' → TrR K B S Z tb (ρ'.set j (.d (enc a))) (inLoop K B S Z (P (i + 1)) D tz))
    (k : ∀ ρ', P xs.length ρ' → TrR K B S Z tz ρ' D) : TrR K B S Z (tSeq (tFor (iList K (tVar i)) (gName j) tb) tz) ρ D := fun σ H a => by
  obtain ⟨v, e1, h1⟩ := a.ok.b h (by simp [noL])
  obtain ⟨p, vs, rfl, hs, hd⟩ := dp_lst h1
  have hyl : vs.length = xs.length := by rw [dps_len hd, List.length_map]
  refine ⟨_, e1, p, rfl, ⟨vs, Evl.ex_l a.eb hs⟩, for_list (K := K) (a := p) (xs := vs) (D := { nx := tz D, rt := D.rt, bk := tz D, ct := D.ct }) (fun i σ H => lf K B S Z (P i) σ H) ⟨ρ, h0, a⟩ (fun i σ H _ q => ?_) (fun i y σ H hy q => ?_) fun σ H q => ?_⟩
  · obtain ⟨ρ', _, a'⟩ := q
    exact Evl.ex_l a'.eb hs
  · obtain ⟨ρ', q, a'⟩ := q
    obtain ⟨d, hd', hyd⟩ := dps_get hd hy
    rw [List.getElem?_map] at hd'
    cases hxi : xs[i]? with
    | none => rw [hxi] at hd'; simp at hd'
    | some c =>
      rw [hxi] at hd'
      obtain rfl : enc c = d := by simpa using hd'
      exact hb i c ρ' hxi q _ _ (a'.set ⟨_, rfl, .inl hyd⟩)
  · obtain ⟨ρ', q, a'⟩ := q
    rw [hyl] at q
    exact k ρ' q _ _ a'
/-- while -/
theorem q_while {tt : TT} {tb : TS} (P : Nat → List Sl → Prop) (m : Nat) (h0 : P m ρ)
    (hs : ∀ m ρ', P m ρ' → ∃ b, EvT K B tt ρ' b ∧ (b = true → TrR K B S Z tb ρ' (inLoop K B S Z (fun ρ2 => ∃ m', m' < m ∧ P m' ρ2) D tz)) ∧ (b = false → TrR K B S Z tz ρ' D)) : TrR K B S Z (tSeq (tWhile tt tb) tz) ρ D := fun σ H a =>
  ⟨fun m σ H => lf K B S Z (P m) σ H, ⟨m, ρ, h0, a⟩, fun m σ H p => by
    obtain ⟨ρ', p, a'⟩ := p
    obtain ⟨b, hb, h1, h2⟩ := hs m ρ' p
    refine hb σ H a'.eb a'.ok _ fun H1 e => ?_
    cases b with
    | true =>
      rw [if_pos rfl]
      refine ⟨lf K B S Z (fun ρ2 => ∃ m', m' < m ∧ P m' ρ2), fun σ' H' q => ?_, h1 rfl _ _ (a'.ex e)⟩
      obtain ⟨ρ2, ⟨m', hm, p2⟩, a2⟩ := q
      exact ⟨m', hm, ρ2, p2, a2⟩
    | false =>
      rw [if_neg Bool.false_ne_true]
      exact h2 rfl _ _ (a'.ex e)⟩
end
end Fk
namespace Fk
open PySem PySem.Spec PyProof.Rows L2
section
variable {K : PySem.W.Frag} {B H H' : Hp} {S : Addr → Prop} {Z : Hp → Prop} {ρ ρ' : List Sl} {σ : L2.St} {ta tb te tl : TE} {t u : TT} {x y z d d2 : PyData} {ds es : List PyData} {tu tv tz : TS} {D : Ends}
variable [zk : ZK S Z]
/-- a, b = .. -/
theorem q_parDD {i j : Nat} {ta : TA} (h : EvA K B ta ρ [d, d2]) (n : noL d = true) (n2 : noL d2 = true) (k : TrR K B S Z tz ((ρ.set i (.d d)).set j (.d d2)) D) : TrR K B S Z (tSeq (tPar i j ta) tz) ρ D := fun σ H a =>
  h σ H a.eb a.ok _ fun vs H1 e h1 => by
    obtain ⟨v, w, rfl, h2, h3⟩ := two_dp h1
    exact ⟨v, w, rfl, k _ _ (((a.ex e).set (i := i) (sd n h2)).set (i := j) (sd n2 h3))⟩
theorem q_parLD {i j : Nat} (h : EvL K B ta ρ ds) (h2 : EvD K B tb ρ d) (n : noLs ds = true) (n2 : noL d = true) (k : ∀ p, New B S ρ p → TrR K B S Z tz ((ρ.set i (.l p ds)).set j (.d d)) D) : TrR K B S Z (tSeq (tPar i j (tCons ta (tCons tb tNil))) tz) ρ D := fun σ H a =>
  h σ H a.eb a.ok _ fun p vs H1 e hp h1 hd => h2 σ H1 (a.eb.tr e) (a.ok.ex e) _ fun v H2 e2 hv =>
    ⟨_, _, rfl, k p (a.new hp) _ _ ((((a.ex e).ex e2).set (i := i) (s := .l p ds) ⟨rfl, vs, e2 _ _ h1, dps_ex e2 _ _ hd, n⟩).set (i := j) (sd n2 hv))⟩
theorem q_parLL {i j : Nat} (h : EvL K B ta ρ ds) (h2 : EvL K B tb ρ es) (n : noLs ds = true) (n2 : noLs es = true) (k : ∀ p q, New B S ρ p → New B S ρ q → p ≠ q → TrR K B S Z tz ((ρ.set i (.l p ds)).set j (.l q es)) D) : TrR K B S Z (tSeq (tPar i j (tCons ta (tCons tb tNil))) tz) ρ D := fun σ H a =>
  h σ H a.eb a.ok _ fun p vs H1 e hp h1 hd => h2 σ H1 (a.eb.tr e) (a.ok.ex e) _ fun q ws H2 e2 hq h3 hd2 =>
    ⟨_, _, rfl, k p q (a.new hp) ((a.ex e).new hq) (fun z => by rw [z, hq] at h1; cases h1) _ _ ((((a.ex e).ex e2).set (i := i) (s := .l p ds) ⟨rfl, vs, e2 _ _ h1, dps_ex e2 _ _ hd, n⟩).set (i := j) (s := .l q es) ⟨rfl, ws, h3, hd2, n2⟩)⟩
theorem tr_mono {t : TS} (h : TrR K B S Z t ρ D) (e : ρ' = ρ) : TrR K B S Z t ρ' D := e ▸ h
end
end Fk
/-! defs by names -/
namespace Fk
open PySem PySem.Spec PyProof.Rows L2
/-- a def of the top, where it stands -/
def Here (K : PySem.W.Frag) (mg : Str → Option Value) (x : Str) (st : Stmt) : Prop := ∃ f fd, FunD K x x (defArgs st) (defBody st) (defScope st) [] [] f fd ∧ mg x = some (.ref f)
structure Ok (P : Program) (w : World) (K : PySem.W.Frag) (mg : Str → Option Value) (base : Heap) (k : Nat) (x : Str) (ps : List Str) (sp : Sp) : Prop where
  ex : ∃ f fd, FnOkG P w K mg base k f fd ps sp ∧ mg x = some (.ref f) ∧ PySem.W.keepIn K (.ref f) = true ∧ L2.Binds K fd ps []
/-- such a def may also be a key -/
structure OkP (P : Program) (w : World) (K : PySem.W.Frag) (mg : Str → Option Value) (base : Heap) (k : Nat) (x : Str) (ps : List Str) (sp : Sp) : Prop where
  ex : ∃ f fd, FnOk P w K mg base CX0 k f fd ps sp ∧ mg x = some (.ref f) ∧ PySem.W.keepIn K (.ref f) = true ∧ L2.Binds K fd ps []
/-- the names that are still the built-in ones -/
structure Bs (mg : Str → Option Value) : Prop where
  all : mg "all" = none
  dict : mg "dict" = none
  enumerate : mg "enumerate" = none
  int : mg "int" = none
  isinstance : mg "isinstance" = none
  len : mg "len" = none
  list : mg "list" = none
  max : mg "max" = none
  min : mg "min" = none
  range : mg "range" = none
  repr : mg "repr" = none
  set : mg "set" = none
  sorted : mg "sorted" = none
  sum : mg "sum" = none
  tuple : mg "tuple" = none
  bool : mg "bool" = none
  leaves : ∃ t, mg "MAX_LEAVES" = some (.int 9 t)
section
variable {P : Program} {w : World} {K : PySem.W.Frag} {mg : Str → Option Value} {base : Heap} {k : Nat} {x : Str} {st : Stmt} {N ps : List Str} {sp : Sp}
theorem OkP.ok (h : OkP P w K mg base k x ps sp) : Ok P w K mg base k x ps sp := by
  obtain ⟨f, fd, h1, h2⟩ := h.ex
  exact ⟨f, fd, .of h1, h2⟩
/-- how arguments bind -/
abbrev BindsBy (x : Str) (st : Stmt) (ps : List Str) : Prop := ∀ (kV doc pm : Value) (an : Option Addr) (cdv ct : Value) (us : List Value), us.length = ps.length → bindArgs (PySem.W.fnOf x x (defArgs st) (defBody st) (defScope st) .none kV doc pm an cdv ct) ⟨us, []⟩ = pure (ps.zip us)
theorem funOf {f : Addr} {fd : FuncData} (F : FunD K x x (defArgs st) (defBody st) (defScope st) [] [] f fd) : Fun K x x st f fd := by
  obtain ⟨oc, od, dV, kV, doc, pm, an, cdv, ct, osl, e, lk, hcd, hD, _⟩ := F.ex
  refine ⟨⟨oc, od, kV, doc, pm, an, cdv, ct, osl, ?_, lk, hcd⟩, F.kp⟩
  rcases hD with ⟨_, rfl⟩ | ⟨h, _⟩
  · exact e
  · exact absurd rfl h
theorem mkG (F : Here K mg x st) (S : FnScope N ps (defScope st)) (hb : BindsBy x st ps) (len : ∀ vs H Q E, sp vs H Q E → vs.length = ps.length)
    (hbody : ∀ (f : Addr) (cdv : Value) (A : Around) (outer : List Env) (s : Shared) (H : Hp) (E : XK), A.guards = some [] → Room k (A.deeper (envOfC x (defScope st) s.heap.objs.size f cdv)) →
      ∃ t, PSs (cxOf CX0 P w K mg base N x (defScope st) f cdv A outer s H E).nox (defBody st) t ∧ ∀ (vs : List V) (H : Hp) (Q : VK) (E : XK), sp vs H Q E → t { nx := fun _ H' => Q .non H', rt := Q } (L2.start N vs) H) : Ok P w K mg base (k + 1) x ps sp := by
  obtain ⟨f, fd, F, g⟩ := F
  refine ⟨f, fd, okG (funOf F) S len fun cdv A outer s H vs Q E hg hr hsp => ?_, g, F.kp, (funOf F).binds hb⟩
  obtain ⟨t, h1, h2⟩ := hbody f cdv A outer s H E hg hr
  exact ⟨t, h1, h2 vs H Q E hsp⟩
theorem mkP (F : Here K mg x st) (S : FnScope N ps (defScope st)) (hb : BindsBy x st ps) (len : ∀ vs H Q E, sp vs H Q E → vs.length = ps.length)
    (hbody : ∀ (f : Addr) (cdv : Value) (A : Around) (outer : List Env) (s : Shared) (H : Hp) (E : XK), Room k (A.deeper (envOfC x (defScope st) s.heap.objs.size f cdv)) →
      ∃ t, PSs (cxOf CX0 P w K mg base N x (defScope st) f cdv A outer s H E).nox (defBody st) t ∧ ∀ (vs : List V) (H : Hp) (Q : VK) (E : XK), sp vs H Q E → t { nx := fun _ H' => Q .non H', rt := Q } (L2.start N vs) H) : OkP P w K mg base (k + 1) x ps sp := by
  obtain ⟨f, fd, F, g⟩ := F
  refine ⟨f, fd, (funOf F).ok S len fun cdv A outer s H vs Q E hr hsp => ?_, g, F.kp, (funOf F).binds hb⟩
  obtain ⟨t, h1, h2⟩ := hbody f cdv A outer s H E hr
  exact ⟨t, h1, h2 vs H Q E hsp⟩
/-- the reading of a def that answers with data -/
theorem runD {R : List PyData → PyData → Prop} {t : TS} (h : ∀ (B : Hp) (ds : List PyData) (d : PyData), R ds d → ∀ D : Ends, (∀ v H', Ex B H' → Dp K H' v d → D.rt v H') → TrR K B S0 Z0 t (startS N ds) D)
    (vs : List V) (H : Hp) (Q : VK) (E : XK) (hs : spD K R vs H Q E) : t { nx := fun _ H' => Q .non H', rt := Q } (L2.start N vs) H := by
  obtain ⟨ds, d, h1, hR, q⟩ := hs
  exact h H ds d hR _ q _ _ ⟨Ex.rf, trivial, env_start h1⟩
theorem runL {R : List PyData → List PyData → Prop} {t : TS} (h : ∀ (B : Hp) (ds es : List PyData), R ds es → ∀ D : Ends, (∀ p ws H', Ex B H' → Z0 H' → B p = none → H' p = some (.lst ws) → DpAll K H' ws es → D.rt (.ref p) H') → TrR K B S0 Z0 t (startS N ds) D)
    (vs : List V) (H : Hp) (Q : VK) (E : XK) (hs : spL K R vs H Q E) : t { nx := fun _ H' => Q .non H', rt := Q } (L2.start N vs) H := by
  obtain ⟨ds, es, h1, hR, q⟩ := hs
  exact h H ds es hR _ (fun p ws H' e _ hp h2 h3 => q p ws H' e hp h2 h3) _ _ ⟨Ex.rf, trivial, env_start h1⟩
theorem lenD {R : List PyData → PyData → Prop} {n : Nat} (h : ∀ ds d, R ds d → ds.length = n) (vs : List V) (H : Hp) (Q : VK) (E : XK) (hs : spD K R vs H Q E) : vs.length = n := by
  obtain ⟨ds, d, h1, hR, _⟩ := hs
  rw [dps_len h1]; exact h ds d hR
theorem lenL {R : List PyData → List PyData → Prop} {n : Nat} (h : ∀ ds es, R ds es → ds.length = n) (vs : List V) (H : Hp) (Q : VK) (E : XK) (hs : spL K R vs H Q E) : vs.length = n := by
  obtain ⟨ds, d, h1, hR, _⟩ := hs
  rw [dps_len h1]; exact h ds d hR
end
section
variable {X : Cx} {k : Nat} {ps : List Str} {sp : Sp} {x : Str} {p pos : Pos} {e : Expr} {es : List Expr} {t : TA}
theorem pe_callN (F : Ok X.prog X.w X.K X.mg X.base k x ps sp) (hg : X.A.guards = some []) (hr : Room k X.A) (hgl : Gl X x) (ha : PA X (e :: es) t)
    (hd : (x == ("__debug__" : Str)) = false := by decide) (he : starEach (e :: es) X.env = (false, eval e X.env) :: starEach es X.env := by rfl) (hpl : (backTo pos (starEach es X.env)).any (·.1) = false := by rfl) :
    PE X (.Call (.Name x p) (e :: es) [] pos) (tCall sp [] E0 t) := by
  obtain ⟨f, fd, h1, h2, h3, h4⟩ := F.ex
  exact pe_callG h1 hg hr hgl h2 h3 h4 ha hd he hpl
theorem pe_callP (F : OkP X.prog X.w X.K X.mg X.base k x ps sp) (hr : Room k X.A) (hgl : Gl X x) (ha : PA X (e :: es) t)
    (hd : (x == ("__debug__" : Str)) = false := by decide) (he : starEach (e :: es) X.env = (false, eval e X.env) :: starEach es X.env := by rfl) (hpl : (backTo pos (starEach es X.env)).any (·.1) = false := by rfl) :
    PE X (.Call (.Name x p) (e :: es) [] pos) (tCall sp [] E0 t) := by
  obtain ⟨f, fd, h1, h2, h3, h4⟩ := F.ex
  exact pe_call h1 hr hgl h2 h3 h4 .nil pass0 ha hd he hpl
end
end Fk
/-! what the defs compute -/
namespace Fk
open PySem L2
abbrev Lot := List Nat
def eI (n : Nat) : PyData := .int (n : Int)
def eLot (l : Lot) : PyData := .tuple (l.map eI)
def eLots (ls : List Lot) : PyData := .tuple (ls.map eLot)
def eTree (n : Nat) (ns : List Lot) : PyData := .tuple [eI n, eLots ns]
def eKey (l : Lot) : PyData := .tuple [eI l.length, eLot l]
def bitsOf (l : Lot) : Nat := l.foldl (fun b x => b ||| (1 <<< x)) 0
def lotOf (b : Nat) : Lot := (List.range 10).filter fun i => b.testBit i
def lowB (b : Nat) : Nat := ((List.range 10).find? fun i => b.testBit i).getD 0
def isTip (b : Nat) : Bool := decide (b ≠ 0) && decide (b &&& (b - 1) = 0)
theorem nl_I (n : Nat) : noL (eI n) = true := rfl
theorem nls_I : ∀ l : List Nat, noLs (l.map eI) = true
  | [] => rfl
  | _ :: l => by simp [noLs, nl_I, nls_I l]
theorem nl_Lot (l : Lot) : noL (eLot l) = true := by show noLs (l.map eI) = true; exact nls_I l
theorem nls_Lot : ∀ l : List Lot, noLs (l.map eLot) = true
  | [] => rfl
  | _ :: l => by simp [noLs, nl_Lot, nls_Lot l]
theorem nl_Lots (l : List Lot) : noL (eLots l) = true := by show noLs (l.map eLot) = true; exact nls_Lot l
theorem nl_Tree (n : Nat) (l : List Lot) : noL (eTree n l) = true := by
  show noLs [eI n, eLots l] = true
  simp [noLs, nl_I, nl_Lots]
theorem nl_Key (l : Lot) : noL (eKey l) = true := by
  show noLs [eI l.length, eLot l] = true
  simp [noLs, nl_I, nl_Lot]
/-- the block of a comprehension with one name -/
theorem blk1 {N : List Str} {sc scope : Scope} {own : List (Str × Nat)} (h1 : (scope.kind == .function) = true) (h2 : (scope.names.all fun y => scope.names.lookup y.1 == some y.2) = true) (h3 : (own.all fun p => N[p.2]? == some p.1) = true)
    (h4 : (scope.names.all fun y => !(y.2 == .free) || (sc.names.lookup y.1 == some .cell || sc.names.lookup y.1 == some .free)) = true) (h5 : (scope.names.all fun y => !(y.2 == .local || y.2 == .cell) || ((own.map (·.1)).elem y.1 || !(N.elem y.1))) = true) : BlkOk N sc scope own := by
  rw [List.all_eq_true] at h2 h3 h4 h5
  refine ⟨by simpa using h1, fun y hy => by simpa using h2 y hy, fun p hp => by simpa using h3 p hp, fun y hy e => ?_, fun y hy e => ?_⟩
  · have h := h4 y hy
    rw [e] at h
    simpa using h
  · have h := h5 y hy
    have : (y.2 == .local || y.2 == .cell) = true := by rcases e with e | e <;> simp [e]
    rw [this] at h
    simpa using h
theorem hu65 {k : Nat} {A : Around} (h : Room k A) : A.units + 65 < cLine := by have := h.un; omega
end Fk
/-! sorted(xs, key=f) as a rule -/
namespace Fk
open PySem PySem.Spec PyProof.Rows L2
def rSortK (K : PySem.W.Frag) (sp : Sp) : List V → Hp → VK → Prop := fun vs H Q => ∃ l xs ks, vs = [.ref l] ∧ (SqL K H l xs ∨ SqT K H l xs) ∧ ks.length = xs.length ∧ PySem.W.AllAlike ks ∧ PySem.W.Sortable ks ∧ noLs ks = true ∧ (∀ d ∈ ks, d.depth ≤ 40) ∧
  (∀ (i : Nat) x d, xs[i]? = some x → ks[i]? = some d → ∀ H1, Ex H H1 → ∀ Q' : VK, (∀ v H2, Ex H1 H2 → Dp K H2 v d → Q' v H2) → sp [x] H1 Q' E0) ∧ ∀ r H2, Ex H H2 → H r = none → H2 r = some (.lst (sortedBy xs ks)) → Q (.ref r) H2
def tSortK (K : PySem.W.Frag) (sp : Sp) (t : TA) : TE := fun σ H Q => t σ H fun vs H1 => rSortK K sp vs H1 Q
section
variable {X : Cx} {x kn p : Str} {p1 p2 p3 pos : Pos} {e : Expr} {t : TA} {k : Nat} {sp : Sp}
theorem pe_sortK (F : OkP X.prog X.w X.K X.mg X.base k kn [p] sp) (hr : Room (k + 2) X.A) (hg : Gl X "sorted") (hm : X.mg "sorted" = none) (hgk : Gl X kn) (ha : PA X [e] t) (hd : (kn == ("__debug__" : Str)) = false := by decide)
    (he : backTo pos (starEach [e] X.env) = (false, eval e X.env) :: backTo pos (starEach [] X.env) := by rfl) (hpl : (backTo pos (starEach [e] X.env)).any (·.1) = false := by rfl) :
    PE X (.Call (.Name "sorted" p1) [e] [⟨some "key", .Name kn p2, p3⟩] pos) (tSortK X.K sp t) := by
  obtain ⟨f, fd, h1, h2, h3, h4⟩ := F.ex
  have hk : PK X [⟨some "key", .Name kn p2, p3⟩] (tCons (tC (.ref f)) tNil) := pk_cons (nm := some "key") (kpos := p3) (pe_glob (pos := p2) (v := .ref f) hgk h2 rfl hd) pk_nil
  refine ⟨fun pins s σ H Q I h => ?_⟩
  refine wpAny_Call_Name_kw (ld_blt I hg hm (show bootBuiltins "sorted" = some (.builtin "sorted") by decide +kernel) ?_ (by decide) (by decide))
  refine PyProof.Rows.callWith_kw (thn (ha.run pos pins s σ H _ I h) fun us s1 ⟨vs, H1, I1, r1, q1⟩ => thn (hk.run pos pins s1 σ H1 (fun zs H2 => zs = [.ref f] ∧ rSortK X.K sp vs H2 Q) I1 ⟨rfl, q1⟩) fun ws s2 ⟨zs, H2, I2, r2, q2⟩ => ?_) he hpl rfl rfl
  obtain ⟨rfl, l, xs, ks, rfl, hs, hl, ha, hsk, hn, hdp, hsp, q⟩ := q2
  obtain ⟨u, rfl, ru⟩ := vals1 r1
  obtain ⟨z, rfl, rz⟩ := vals1 r2
  cases ru
  cases rz
  exact sorted_fn I2 h1 h4 hr hs hl ha hsk hn hdp hsp q
end
section
variable {K : PySem.W.Frag} {B : Hp} {ρ : List Sl} {te : TE}
theorem sortedBy_dps {H : Hp} {xs : List V} {as : List PyData} (h : DpAll K H xs as) (kf : PyData → PyData) : DpAll K H (sortedBy xs (as.map kf)) (as.mergeSort (PySem.W.dataLe false kf)) := by
  have hl := dps_len h
  have e1 : (xs.zip (as.map kf)) = (xs.zip as).map fun z => (z.1, kf z.2) := by
    rw [List.zip_map_right]; rfl
  have e2 : (xs.zip (as.map kf)).mergeSort (PySem.W.dataLe false Prod.snd) = ((xs.zip as).mergeSort fun a b => PySem.W.dataLe false kf a.2 b.2).map fun z => (z.1, kf z.2) := by
    rw [e1]
    exact (List.map_mergeSort (f := fun z : V × PyData => (z.1, kf z.2)) (r := fun a b => PySem.W.dataLe false kf a.2 b.2) (s := PySem.W.dataLe false Prod.snd) fun a _ b _ => rfl).symm
  have e3 : as.mergeSort (PySem.W.dataLe false kf) = ((xs.zip as).mergeSort fun a b => PySem.W.dataLe false kf a.2 b.2).map Prod.snd := by
    rw [List.map_mergeSort (s := PySem.W.dataLe false kf) fun a _ b _ => rfl, List.map_snd_zip (by omega)]
  unfold sortedBy
  rw [e2, e3, List.map_map]
  have all : ∀ z ∈ (xs.zip as).mergeSort (fun a b => PySem.W.dataLe false kf a.2 b.2), Dp K H z.1 z.2 := fun z hz => by
    have hz := List.mem_mergeSort.mp hz
    obtain ⟨i, hi⟩ := List.getElem?_of_mem hz
    obtain ⟨h1, h2⟩ := List.getElem?_zip_eq_some.mp hi
    obtain ⟨d, h3, h4⟩ := dps_get h h1
    rw [h2] at h3; cases h3
    exact h4
  generalize (xs.zip as).mergeSort (fun a b => PySem.W.dataLe false kf a.2 b.2) = zs at all
  clear e1 e2 e3
  induction zs with
  | nil => exact .nil
  | cons z zs ih => exact .cons (all z List.mem_cons_self) (ih fun y hy => all y (List.mem_cons_of_mem _ hy))
theorem el_sortKO {α : Type} {R : List PyData → PyData → Prop} {l : List α} {enc : α → PyData} {kf : PyData → PyData} {dd : PyData} (h : EvD K B te ρ dd) (hdd : dd = .list (l.map enc) ∨ dd = .tuple (l.map enc)) (hR : ∀ a ∈ l, R [enc a] (kf (enc a))) (hal : PySem.W.AllAlike (l.map fun a => kf (enc a))) (hsk : PySem.W.Sortable (l.map fun a => kf (enc a)))
    (hn : ∀ a ∈ l, noL (kf (enc a)) = true) (hd : ∀ a ∈ l, (kf (enc a)).depth ≤ 40) : EvL K B (tSortK K (spD K R) (tCons te tNil)) ρ ((l.mergeSort fun a b => PySem.W.dataLe false kf (enc a) (enc b)).map enc) := fun σ H eb ok Q q => h σ H eb ok _ fun v H1 e1 h1 => by
  obtain ⟨p, xs, rfl, hs, ha⟩ : ∃ p xs, v = .ref p ∧ (SqL K H1 p xs ∨ SqT K H1 p xs) ∧ DpAll K H1 xs (l.map enc) := by
    rcases hdd with rfl | rfl
    · obtain ⟨p, xs, e, hs, ha⟩ := dp_lst h1
      exact ⟨p, xs, e, .inl hs, ha⟩
    · obtain ⟨p, xs, e, hs, ha⟩ := dp_tup h1
      exact ⟨p, xs, e, .inr hs, ha⟩
  have hl : xs.length = l.length := by rw [dps_len ha, List.length_map]
  have ek : ((l.map enc).map kf) = l.map fun a => kf (enc a) := by rw [List.map_map]; rfl
  refine ⟨p, xs, (l.map enc).map kf, rfl, hs, by simp [hl], by rw [ek]; exact hal, by rw [ek]; exact hsk, ?_, ?_, fun i x d hx hd H1' ex Q' q' => ?_, fun r H2 ex hr h2 => ?_⟩
  · rw [ek]; exact noLs_map hn
  · rw [ek]
    intro d hd'
    obtain ⟨a, ha, rfl⟩ := List.mem_map.mp hd'
    exact hd a ha
  · rw [ek, List.getElem?_map] at hd
    obtain ⟨d', hd', hx'⟩ := dps_get ha hx
    rw [List.getElem?_map] at hd'
    cases hli : l[i]? with
    | none => rw [hli] at hd; simp at hd
    | some a =>
      rw [hli] at hd hd'
      obtain rfl : kf (enc a) = d := by simpa using hd
      obtain rfl : enc a = d' := by simpa using hd'
      exact ⟨[enc a], _, .cons (dp_ex ex _ _ hx') .nil, hR a (List.mem_of_getElem? hli), fun v H2 e2 h2 => q' v H2 e2 h2⟩
  · refine q r _ H2 (e1.tr ex) (Evl.fresh_back e1 hr) h2 ?_
    have := sortedBy_dps ha kf
    rw [show (l.mergeSort fun a b => PySem.W.dataLe false kf (enc a) (enc b)).map enc = (l.map enc).mergeSort (PySem.W.dataLe false kf) from List.map_mergeSort fun a _ b _ => rfl]
    exact dps_ex ex _ _ this
theorem el_sortK {α : Type} {R : List PyData → PyData → Prop} {l : List α} {enc : α → PyData} {kf : PyData → PyData} (h : EvD K B te ρ (.list (l.map enc))) (hR : ∀ a ∈ l, R [enc a] (kf (enc a))) (hal : PySem.W.AllAlike (l.map fun a => kf (enc a))) (hsk : PySem.W.Sortable (l.map fun a => kf (enc a)))
    (hn : ∀ a ∈ l, noL (kf (enc a)) = true) (hd : ∀ a ∈ l, (kf (enc a)).depth ≤ 40) : EvL K B (tSortK K (spD K R) (tCons te tNil)) ρ ((l.mergeSort fun a b => PySem.W.dataLe false kf (enc a) (enc b)).map enc) := el_sortKO h (.inl rfl) hR hal hsk hn hd
theorem el_sortKT {α : Type} {R : List PyData → PyData → Prop} {l : List α} {enc : α → PyData} {kf : PyData → PyData} (h : EvD K B te ρ (.tuple (l.map enc))) (hR : ∀ a ∈ l, R [enc a] (kf (enc a))) (hal : PySem.W.AllAlike (l.map fun a => kf (enc a))) (hsk : PySem.W.Sortable (l.map fun a => kf (enc a)))
    (hn : ∀ a ∈ l, noL (kf (enc a)) = true) (hd : ∀ a ∈ l, (kf (enc a)).depth ≤ 40) : EvL K B (tSortK K (spD K R) (tCons te tNil)) ρ ((l.mergeSort fun a b => PySem.W.dataLe false kf (enc a) (enc b)).map enc) := el_sortKO h (.inr rfl) hR hal hsk hn hd
end
end Fk
/-! dicts with keys of tuples of ints, of any depth to 8 -/
namespace Fk
open PySem PySem.Spec PyProof.Rows L2
section
variable {X : Cx} {pins : List (Addr × Obj)} {σ : L2.St} {H : Hp} {s : Shared} {p : Addr}
mutual
theorem nested_of (I : Inv X pins σ H s) : ∀ (d : PyData) (v : V) (u : Value), itD d = true → Dp X.K H v d → RelV v u → NestedIs s.heap (keyN d) u
  | .int i, _, _, _, h, r => by cases h; obtain ⟨t, rfl⟩ := r; exact .int i t
  | .tuple ds, _, _, n, h, r => by
    cases h with
    | tup hs ha =>
      cases r
      obtain ⟨its, rv, ⟨o, ho, hc, m, hd⟩, _⟩ := I.tuple hs
      exact .tup ho hc hd (by simpa using nested_all I ds _ its (by simpa [itD] using n) ha rv)
  | .none, _, _, n, _, _ => by simp [itD] at n
  | .bool _, _, _, n, _, _ => by simp [itD] at n
  | .str _, _, _, n, _, _ => by simp [itD] at n
  | .list _, _, _, n, _, _ => by simp [itD] at n
  | .dict _, _, _, n, _, _ => by simp [itD] at n
theorem nested_all (I : Inv X pins σ H s) : ∀ (ds : List PyData) (vs : List V) (us : List Value), itDs ds = true → DpAll X.K H vs ds → Vals vs us → NestedAll s.heap (keyNs ds) us
  | [], _, _, _, h, r => by cases h; cases r; exact .nil
  | d :: ds, _, _, n, h, r => by
    have n' : itD d = true ∧ itDs ds = true := by simpa [itDs] using n
    cases h with
    | cons h1 h2 =>
      cases r with
      | cons r1 r2 => exact .cons (nested_of I d _ _ n'.1 h1 r1) (nested_all I ds _ _ n'.2 h2 r2)
end
theorem key_is (I : Inv X pins σ H s) {d : PyData} {b : Addr} (hk : keyOk d = true) (h : Dp X.K H (.ref b) d) : (nestedKind X.prog X.w).is s.heap (keyN d) b := ⟨nested_of I d _ _ (keyOk_it hk) h rfl, keyOk_depth hk⟩
theorem key_ref {d : PyData} {v : V} {K : PySem.W.Frag} (hk : keyOk d = true) (h : Dp K H v d) : ∃ b, v = .ref b := by
  cases d with
  | tuple ds => obtain ⟨a, _, rfl, _⟩ := dp_tup h; exact ⟨a, rfl⟩
  | none => simp [keyOk] at hk
  | int _ => simp [keyOk] at hk
  | bool _ => simp [keyOk] at hk
  | str _ => simp [keyOk] at hk
  | list _ => simp [keyOk] at hk
  | dict _ => simp [keyOk] at hk
theorem dho_of (I : Inv X pins σ H s) {xs : List (NestedKey × Addr × Value)} {ep : Nat} (h : H p = some (dHO X.prog X.w p xs ep)) {es : List (PyData × PyData)} (hp : Paired (KE X.K H) es xs) :
    xs.length ≤ sizeLine ∧ (p == sysModules) = false ∧ s.heap.DictOfH (nestedKind X.prog X.w) p xs := by
  obtain ⟨⟨h1, h2, o, es', h3, h4, h5, h6, h7⟩, _⟩ := (show ObjOk X.prog X.w H s.heap p (dHO X.prog X.w p xs ep) from I.hok p _ h)
  refine ⟨h1, h2, o, es', ep, h3, h4, h5, h6, ?_, h7⟩
  have all : ∀ {l : List (PyData × PyData)} {m : List (NestedKey × Addr × Value)}, Paired (KE X.K H) l m → ∀ x ∈ m, (nestedKind X.prog X.w).is s.heap x.1 x.2.1 := by
    intro l m q
    induction q with
    | nil => intro x hx; exact nomatch hx
    | @cons a b ps qs hq t ih =>
      intro x hx
      rcases List.mem_cons.mp hx with e | hx
      · subst e
        rw [hq.1]
        exact key_is I hq.2.1 hq.2.2.1
      · exact ih x hx
  exact all hp
theorem dho_ok {P : Program} {w : World} {H' : Hp} {h' : Heap} {xs : List (NestedKey × Addr × Value)} (z : xs.length ≤ sizeLine) (hd : (p == sysModules) = false) (dd : h'.DictOfH (nestedKind P w) p xs) : ∃ ep, ObjOk P w H' h' p (dHO P w p xs ep) := by
  obtain ⟨o, es, ep, h1, h2, h3, h4, _, h5⟩ := dd
  exact ⟨ep, ⟨z, hd, o, es, h1, h2, h3, h4, h5⟩, ⟨o, h1⟩, fun a b ⟨z, hd, o, es, h1, h2⟩ k => ⟨z, hd, o, es, k _ h1, h2⟩⟩
/-- what d[k] gives -/
def atD (es : List (PyData × PyData)) (k : PyData) : Option PyData := (es.find? fun e => decide (keyN e.1 = keyN k)).map (·.2)
def putD (es : List (PyData × PyData)) (k v : PyData) : List (PyData × PyData) := if (atD es k).isSome = true then es.map (fun e => if keyN e.1 = keyN k then (e.1, v) else e) else es ++ [(k, v)]
theorem atD_pair {K : PySem.W.Frag} {k : PyData} : ∀ {es : List (PyData × PyData)} {xs : List (NestedKey × Addr × Value)}, Paired (KE K H) es xs →
    ((atD es k).isSome = (atKey xs (keyN k)).isSome) ∧ ∀ v, atD es k = some v → ∃ q, atKey xs (keyN k) = some q ∧ PV v q.2
  | _, _, .nil => ⟨rfl, fun v h => by simp [atD] at h⟩
  | _, _, .cons (a := e) (b := x) (l₁ := es) (l₂ := xs) h t => by
    obtain ⟨ih1, ih2⟩ := atD_pair t
    have ex := h.1
    by_cases hc : keyN e.1 = keyN k
    · have hx : x.1 = keyN k := ex.trans hc
      refine ⟨by simp [atD, atKey, List.find?_cons, hc, hx], fun v hv => ⟨x.2, by simp [atKey, List.find?_cons, hx], ?_⟩⟩
      have : e.2 = v := by simpa [atD, List.find?_cons, hc] using hv
      rw [← this]; exact h.2.2.2
    · have hx : ¬ x.1 = keyN k := fun z => hc (ex.symm.trans z)
      refine ⟨by simpa [atD, atKey, List.find?_cons, hc, hx] using ih1, fun v hv => ?_⟩
      obtain ⟨q, h1, h2⟩ := ih2 v (by simpa [atD, List.find?_cons, hc] using hv)
      exact ⟨q, by simpa [atKey, List.find?_cons, hx] using h1, h2⟩
theorem put_map {K : PySem.W.Frag} {k v : PyData} {u : Value} (hv : PV v u) : ∀ {es : List (PyData × PyData)} {xs : List (NestedKey × Addr × Value)}, Paired (KE K H) es xs → Paired (KE K H) (es.map fun e => if keyN e.1 = keyN k then (e.1, v) else e) (xs.map (putAt (keyN k) u))
  | _, _, .nil => .nil
  | _, _, .cons (a := e) (b := x) hq t => by
    rw [List.map_cons, List.map_cons]
    refine .cons ?_ (put_map hv t)
    by_cases hc : keyN e.1 = keyN k
    · rw [if_pos hc]
      unfold putAt
      rw [if_pos (hq.1.trans hc)]
      exact ⟨hq.1, hq.2.1, hq.2.2.1, hv⟩
    · rw [if_neg hc]
      unfold putAt
      rw [if_neg fun z => hc (hq.1.symm.trans z)]
      exact hq
theorem putD_pair {K : PySem.W.Frag} {k v : PyData} {b : Addr} {u : Value} (hk : keyOk k = true) (hb : Dp K H (.ref b) k) (hv : PV v u) {es : List (PyData × PyData)} {xs : List (NestedKey × Addr × Value)} (h : Paired (KE K H) es xs) : Paired (KE K H) (putD es k v) (storedH xs (keyN k) b u) := by
  unfold putD storedH
  rw [(atD_pair (k := k) h).1]
  split
  · exact put_map hv h
  · exact Paired.snoc h ⟨rfl, hk, hb, hv⟩
def isPV : PyData → Bool
  | .int _ => true
  | .bool _ => true
  | _ => false
theorem PV.of {K : PySem.W.Frag} {v : V} {d : PyData} {u : Value} (h : Dp K H v d) (r : RelV v u) (hp : isPV d = true) : PV d u := by
  cases d with
  | int i => rw [dp_int h] at r; exact r
  | bool b => rw [dp_bl h] at r; exact r
  | none => simp [isPV] at hp
  | str _ => simp [isPV] at hp
  | tuple _ => simp [isPV] at hp
  | list _ => simp [isPV] at hp
  | dict _ => simp [isPV] at hp
theorem PV.dp {K : PySem.W.Frag} {d : PyData} {u : Value} (h : PV d u) : ∃ v, RelV v u ∧ Dp K H v d := by
  cases d with
  | int i => exact ⟨.int i, h, .int i⟩
  | bool b => exact ⟨.bl b, h, .bl b⟩
  | none => exact h.elim
  | str _ => exact h.elim
  | tuple _ => exact h.elim
  | list _ => exact h.elim
  | dict _ => exact h.elim
end
/-! ### rules -/
def tDNewN (P : Program) (w : World) : TE := fun _ H Q => ∀ p ep, H p = none → Q (.ref p) (upd H p (dHO P w p [] ep))
/-- d[k]: d a slot's dict -/
def tNGet (K : PySem.W.Frag) (P : Program) (w : World) (td ti : TE) : TE := fun σ H Q => td σ H fun x H1 => ti σ H1 fun y H2 => ∃ p xs ep es k v, x = .ref p ∧ H2 p = some (dHO P w p xs ep) ∧ Paired (KE K H2) es xs ∧ keyOk k = true ∧ Dp K H2 y k ∧ atD es k = some v ∧ ∀ z, Dp K H2 z v → Q z H2
def tNPut (K : PySem.W.Frag) (P : Program) (w : World) (td ti tv : TE) : TS := fun D σ H => tv σ H fun z H1 => td σ H1 fun x H2 => ti σ H2 fun y H3 => ∃ p xs ep es k v, x = .ref p ∧ H3 p = some (dHO P w p xs ep) ∧ Paired (KE K H3) es xs ∧ keyOk k = true ∧ Dp K H3 y k ∧ isPV v = true ∧ Dp K H3 z v ∧ xs.length < sizeLine ∧
  ∀ b u ep', y = .ref b → PV v u → D.nx σ (upd H3 p (dHO P w p (storedH xs (keyN k) b u) ep'))
section
variable {X : Cx} {pos pos' : Pos} {o i value : Expr} {td ti tv : TE}
theorem pe_dnewN : PE X (.Dict [] [] pos) (tDNewN X.prog X.w) := ⟨fun pins s σ H Q I h => by
  obtain ⟨ep, ok⟩ := dho_ok (P := X.prog) (w := X.w) (H' := upd H s.heap.objs.size (dHO X.prog X.w s.heap.objs.size [] 0)) (p := s.heap.objs.size) (Nat.zero_le _) (beq_eq_false_iff_ne.mpr (Nat.ne_of_gt I.big)) (Heap.DictOfH.new (knd := nestedKind X.prog X.w) s.heap)
  exact wpAny_Dict_empty ⟨.ref s.heap.objs.size, _, I.laid (a := s.heap.objs.size) (o := dHO X.prog X.w s.heap.objs.size [] ep) (t' := s.toks) (fun _ _ q => Heap.get?_push_of_some _ q) (Nat.le_refl _) ok, rfl, h _ ep (I.hok.fresh (Nat.le_refl _))⟩⟩
theorem pe_nget (hu : X.A.units + 64 < cLine) (ho : PE X o td) (hi : PE X i ti) (hs : NoSl i) : PE X (.Subscript o i pos) (tNGet X.K X.prog X.w td ti) := by
  refine ⟨fun pins s σ H Q I h => ?_⟩
  refine subD_of PySem.F.slot_dict_getitem.lookup hs (thn (ho.run pins s σ H _ I h) fun u s1 ⟨x, H1, I1, rx, q1⟩ => thn (hi.run pins s1 σ H1 _ I1 q1) fun iv s2 ⟨y, H2, I2, ry, p, xs, ep, es, k, d, ex, hp, hpa, hk, hy, hat, q⟩ => ?_)
  subst ex
  obtain rfl : u = Value.ref p := rx
  obtain ⟨b, rfl⟩ := key_ref hk hy
  obtain rfl : iv = Value.ref b := ry
  obtain ⟨_, _, dd⟩ := dho_of I2 hp hpa
  obtain ⟨q', h1, h2⟩ := (atD_pair hpa).2 d hat
  refine ⟨dd.typeIs, wpAny_getItem_heap (knd := nestedKind X.prog X.w) (k := keyN k) ?_ (key_is I2 hk hy) dd h1 ?_⟩
  · show X.A.units + 1 + 8 < cLine
    omega
  · obtain ⟨z, rz, dz⟩ := PV.dp (K := X.K) (H := H2) h2
    exact ⟨z, H2, I2.tok _, rz, q z dz⟩
theorem ps_nput (hu : X.A.units + 64 < cLine) (ho : PE X o td) (hi : PE X i ti) (hv : PE X value tv) (hs : swapsWith value (some (.Subscript o i pos')) pos.line X.env = pure false) : PS X (.Assign [.Subscript o i pos'] value pos) (tNPut X.K X.prog X.w td ti tv) := by
  refine ⟨fun pins s σ H D I h => ?_⟩
  refine wpAny_Assign_Subscript (thn (hv.run pins s σ H _ I h) fun r s1 ⟨z, H1, I1, rz, q1⟩ => thn (ho.run pins s1 σ H1 _ I1 q1) fun u s2 ⟨x, H2, I2, rx, q2⟩ => thn (hi.run pins s2 σ H2 _ I2 q2) fun iv s3 ⟨y, H3, I3, ry, q3⟩ => ?_) hs
  obtain ⟨p, xs, ep, es, k, v, rfl, hp, hpa, hk, hy, hpv, hz, hl, q⟩ := q3
  obtain ⟨b, rfl⟩ := key_ref hk hy
  cases rx
  cases ry
  obtain ⟨h1, h2, dd⟩ := dho_of I3 hp hpa
  have pv : PV v r := PV.of hz rz hpv
  refine wpAny_setItem_heap (hsz := h1) (knd := nestedKind X.prog X.w) (k := keyN k) (show X.A.units + 1 + 8 < cLine by omega) (key_is I3 hk hy) dd fun h' dd' sb => ?_
  obtain ⟨ep', ok⟩ := dho_ok (P := X.prog) (w := X.w) (H' := H3) (p := p) (xs := storedH xs (keyN k) b r) (by have := storedH_length xs (keyN k) b r; omega) h2 dd'
  obtain ⟨o', es', ep2, ho', _⟩ := dd'
  exact ⟨σ, _, d_write (ob := dHO X.prog X.w p (storedH xs (keyN k) b r) ep') I3 (by rw [hp]; exact True.intro) sb ⟨o', ho'⟩ ok, q b r ep' rfl pv⟩
/-- for k in d, d a slot's dict -/
def Itn (P : Program) (w : World) (d : Addr) (xs : List (NestedKey × Addr × Value)) (ep : Nat) : It :=
  ⟨fun i H => H d = some (dHO P w d xs ep) ∧ i < xs.length, fun i H x H' => H' = H ∧ ∃ e, xs[i]? = some e ∧ x = .ref e.2.1, fun i H => H d = some (dHO P w d xs ep) ∧ xs.length ≤ i⟩
theorem turn_keysN {P : Program} {w : World} {K : PySem.W.Frag} {tg : Expr} {d : Addr} {xs : List (NestedKey × Addr × Value)} {ep : Nat} (it : Addr) : Turn P w K tg (Itn P w d xs ep) [it] it (fun i h => h.IsKeyIter it d i xs.length ep) where
  mem := by simp
  obj := fun i h st b hb => by
    have e : b = it := by simpa using hb
    subst e
    obtain ⟨oi, e, cc, dd⟩ := st
    exact ⟨oi, e, fun v z => by rw [dd] at z; cases z⟩
  keep := fun i h h' st k => st.at fun oi e => k it (by simp) oi e
  item := by
    intro X hP hw hK hc i pins s σ H E I hf st hg
    subst hP hw hK
    obtain ⟨hd, hi⟩ := hg
    obtain ⟨f0, f1, f2, f3, f4, f5⟩ := hf it (by simp)
    obtain ⟨⟨_, hs, o, es', h3, h4, h5, h6, h7⟩, _⟩ := (show ObjOk X.prog X.w H s.heap d (dHO X.prog X.w d xs ep) from I.hok d _ hd)
    obtain ⟨e, he⟩ : ∃ e, xs[i]? = some e := ⟨_, List.getElem?_eq_getElem hi⟩
    have hen : es'[i]? = some (entryOfKey (nestedKind X.prog X.w) e) := by rw [entry_at h6 i, he]; rfl
    refine next_key_item st h3 h5 (size_of_entries h6) hen fun h' st' sb => ?_
    have I1 : Inv X pins σ H { s with heap := h' } := I.turned (t' := s.toks) (fun b ob hb e => (sb.2 b hb).trans e) f0 f1 f3 f4 f5
    obtain ⟨oi, e1, cc, dd⟩ := id st'
    exact ⟨_, rfl, go_of (s := { s with heap := h' }) e1 cc dd (by decide) ⟨.ref e.2.1, H, I1, rfl, ⟨rfl, e, he, rfl⟩, st', fun b hb => (hf b hb).1⟩⟩
  done := by
    intro X hP hw hK hc i pins s σ H E I hf st hg
    subst hP hw hK
    obtain ⟨hd, hi⟩ := hg
    obtain ⟨f0, f1, f2, f3, f4, f5⟩ := hf it (by simp)
    obtain ⟨⟨_, hs, o, es', h3, h4, h5, h6, h7⟩, _⟩ := (show ObjOk X.prog X.w H s.heap d (dHO X.prog X.w d xs ep) from I.hok d _ hd)
    refine next_key_end (I.ok.hd hc) st h3 h5 (size_of_entries h6) hi fun h' he' => ⟨rfl, ?_⟩
    exact I.turned (t' := s.toks) (fun b ob hb e => he' b ob hb e) f0 f1 f3 f4 f5
  self := fun A i s Q E st hq => wpAny_pyIter_keyiter st hq
def iKeysN (P : Program) (w : World) (td : TE) : TI := fun σ H R => td σ H fun x H1 => ∃ d xs ep, x = .ref d ∧ H1 d = some (dHO P w d xs ep) ∧ R (Itn P w d xs ep) H1
theorem pi_keysN {tg : Expr} (he : PE X o td) : PI X tg o (iKeysN X.prog X.w td) := by
  refine ⟨fun pins s σ H R I h => ?_⟩
  refine thn (he.run pins s σ H _ I h) fun u s1 ⟨x, H1, I1, rx, d, xs, ep, ex, hd, q⟩ => ?_
  subst ex
  obtain rfl : u = Value.ref d := rx
  obtain ⟨⟨_, hs, o, es', h3, h4, h5, h6, h7⟩, _⟩ := (show ObjOk X.prog X.w H1 s1.heap d (dHO X.prog X.w d xs ep) from I1.hok d _ hd)
  refine iter_keys hs h3 h4 h5 (pi_one (tk := s1.toks) I1 _ (turn_keysN _) ⟨_, Heap.get?_push_size _ rfl, rfl, ?_⟩ q)
  rw [size_of_entries h6] <;> rfl
/-- list(d) -/
def rListN (P : Program) (w : World) : List V → Hp → VK → Prop := fun vs H Q => ∃ d xs ep, vs = [.ref d] ∧ H d = some (dHO P w d xs ep) ∧ ∀ p, H p = none → Q (.ref p) (upd H p (.lst (xs.map fun x => .ref x.2.1)))
theorem cr_listN (hc : X.calm = true) : CallR X (.type "list") (rListN X.prog X.w) := by
  intro pins s σ H vs us Q I r h
  obtain ⟨d, xs, ep, rfl, hd, q⟩ := h
  obtain ⟨u, rfl, rx⟩ := vals1 r
  cases rx
  obtain ⟨⟨z, hs, o, es', h3, h4, h5, h6, h7⟩, _⟩ := (show ObjOk X.prog X.w H s.heap d (dHO X.prog X.w d xs ep) from I.hok d _ hd)
  have l1 : es'.size = xs.length := size_of_entries h6
  refine PySem.W.kdl_call (kdl_raw hs h4 h5) (I.ok.hd hc) h3 (by omega) fun h' tk acc' c' kp e it => ?_
  have ea : acc'.toList = xs.map fun x => Value.ref x.2.1 := by
    have hl : acc'.toList.length = xs.length := by rw [Array.length_toList, it.1]; exact l1
    apply List.ext_getElem?
    intro j
    rw [List.getElem?_map]
    cases hj : acc'.toList[j]? with
    | none =>
      have h1 := List.getElem?_eq_none_iff.mp hj
      rw [List.getElem?_eq_none (by omega)]
      all_goals rfl
    | some v =>
      obtain ⟨en, hen, hv⟩ := it.2 j v (by rw [← Array.getElem?_toList]; exact hj)
      have qe := entry_at h6 j
      rw [hen] at qe
      cases hb : xs[j]? with
      | none => rw [hb] at qe; exact nomatch (show some en = none from qe)
      | some b =>
        rw [hb] at qe
        have e2 : en = entryOfKey (nestedKind X.prog X.w) b := Option.some.inj qe
        rw [hv, e2]
        all_goals rfl
  have eb : acc'.toList = (xs.map fun x => x.2.1).map Value.ref := by rw [ea, List.map_map]; all_goals rfl
  have ec : (xs.map fun x => V.ref x.2.1) = (xs.map fun x => x.2.1).map V.ref := by rw [List.map_map]; rfl
  have rv : Vals (xs.map fun x => V.ref x.2.1) acc'.toList := by rw [eb, ec]; exact vals_refs _
  exact ⟨.ref s.heap.objs.size, _, I.laid (t' := tk) (o := .lst (xs.map fun x => V.ref x.2.1)) kp (Nat.le_refl _) ⟨by rw [List.length_map]; exact z, acc'.toList, c', rv, by rw [Array.toArray_toList]; exact e⟩, rfl, q _ (I.hok.fresh (Nat.le_refl _))⟩
end
end Fk
/-! dict(pairs), and what the slots say of dicts -/
namespace Fk
open PySem PySem.Spec PyProof.Rows L2
def putAll (es l : List (PyData × PyData)) : List (PyData × PyData) := l.foldl (fun acc e => putD acc e.1 e.2) es
def rDictN (K : PySem.W.Frag) (P : Program) (w : World) : List V → Hp → VK → Prop := fun vs H Q => ∃ (a : Addr) (ps : List V) (l : List (PyData × PyData)), vs = [.ref a] ∧ SqL K H a ps ∧ DpAll K H ps (l.map fun e => .tuple [e.1, e.2]) ∧ (∀ e ∈ l, keyOk e.1 = true ∧ isPV e.2 = true) ∧
  ∀ d xs ep, H d = none → Paired (KE K H) (putAll [] l) xs → Q (.ref d) (upd H d (dHO P w d xs ep))
section
variable {X : Cx} {pins : List (Addr × Obj)} {σ : L2.St} {H : Hp} {s : Shared} {p : Addr}
theorem vals2' {v w : V} {us : List Value} (r : Vals [v, w] us) : ∃ a b, us = [a, b] ∧ RelV v a ∧ RelV w b := by
  cases r with
  | cons r1 r => cases r with
    | cons r2 r => cases r; exact ⟨_, _, rfl, r1, r2⟩
theorem pairsN (I : Inv X pins σ H s) : ∀ {l : List (PyData × PyData)} {ps : List V} {us : List Value}, DpAll X.K H ps (l.map fun e => .tuple [e.1, e.2]) → Vals ps us → (∀ e ∈ l, keyOk e.1 = true ∧ isPV e.2 = true) →
    ∃ (Ts : Nat → Addr) (xs : List (NestedKey × Addr × Value)), Paired (KE X.K H) l xs ∧ us.length = l.length ∧ ∀ j x, xs[j]? = some x → us[j]? = some (.ref (Ts j)) ∧ PairAt s.heap (Ts j) (.ref x.2.1) x.2.2
  | [], _, _, hd, r, _ => by
    cases hd; cases r
    exact ⟨fun _ => 0, [], .nil, rfl, fun j x h => by simp at h⟩
  | e :: l, _, _, hd, r, hk => by
    rw [List.map_cons] at hd
    cases hd with
    | cons h1 h2 =>
      cases r with
      | cons r1 r2 =>
        obtain ⟨Ts, xs, hp, hl, ht⟩ := pairsN I h2 r2 fun e he => hk e (List.mem_cons_of_mem _ he)
        obtain ⟨a, ys, rfl, hs, ha⟩ := dp_tup h1
        obtain ⟨v, w, rfl, hv, hw⟩ := two_dp ha
        obtain ⟨k1, k2⟩ := hk e List.mem_cons_self
        obtain ⟨b, rfl⟩ := key_ref k1 hv
        cases r1
        obtain ⟨its, rv, hT, _⟩ := I.tuple hs
        obtain ⟨u1, u2, rfl, q1, q2⟩ := vals2' rv
        cases q1
        refine ⟨fun j => if j = 0 then a else Ts (j - 1), (keyN e.1, b, u2) :: xs, .cons ⟨rfl, k1, hv, PV.of hw q2 k2⟩ hp, by simp [hl], fun j x hx => ?_⟩
        cases j with
        | zero =>
          have : (keyN e.1, b, u2) = x := by simpa using hx
          subst this
          obtain ⟨o, ho, hc, m, hd⟩ := hT
          exact ⟨rfl, .inl ⟨o, ho, hc, m, hd⟩⟩
        | succ j =>
          obtain ⟨h3, h4⟩ := ht j x (by simpa using hx)
          exact ⟨by simpa using h3, by simpa using h4⟩
theorem stored_pair {K : PySem.W.Frag} : ∀ {l : List (PyData × PyData)} {ys : List (NestedKey × Addr × Value)} {es : List (PyData × PyData)} {xs : List (NestedKey × Addr × Value)}, Paired (KE K H) l ys → Paired (KE K H) es xs → Paired (KE K H) (putAll es l) (storedAllH xs ys)
  | _, _, _, _, .nil, h => h
  | _, _, es, xs, .cons (a := e) (b := y) (l₁ := l) (l₂ := ys) q t, h => by
    show Paired (KE K H) (putAll (putD es e.1 e.2) l) (storedAllH (storedH xs y.1 y.2.1 y.2.2) ys)
    rw [q.1]
    exact stored_pair t (putD_pair q.2.1 q.2.2.1 q.2.2.2 h)
theorem cr_dictN (hu : X.A.units + 64 < cLine) (hc : X.calm = true) : CallR X (.type "dict") (rDictN X.K X.prog X.w) := by
  intro pins s σ H vs us Q I r h
  obtain ⟨a, ps, l, rfl, hs, hd, hk, q⟩ := h
  obtain ⟨u, rfl, rx⟩ := vals1 r
  cases rx
  obtain ⟨its, rv, pl, hz⟩ := I.list hs
  obtain ⟨Ts, xs, hp, hl, ht⟩ := pairsN I hd rv hk
  have hxl : xs.length = l.length := (Paired.length hp).symm
  have hz' : xs.length ≤ sizeLine := by rw [hxl, ← hl, ← rv.length]; exact hz
  have kis : ∀ x ∈ xs, (nestedKind X.prog X.w).is s.heap x.1 x.2.1 := by
    intro x hx
    obtain ⟨j, hj⟩ := List.getElem?_of_mem hx
    have all : ∀ {l : List (PyData × PyData)} {m : List (NestedKey × Addr × Value)}, Paired (KE X.K H) l m → ∀ x ∈ m, (nestedKind X.prog X.w).is s.heap x.1 x.2.1 := by
      intro l m q
      induction q with
      | nil => intro x hx; exact nomatch hx
      | @cons a b ps qs hq t ih =>
        intro x hx
        rcases List.mem_cons.mp hx with e | hx
        · subst e
          rw [hq.1]
          exact key_is I hq.2.1 hq.2.2.1
        · exact ih x hx
    exact all hp x hx
  obtain ⟨o, n, ho, hcl, hdd, hdat⟩ := pl
  have hpi : PairItems s.heap its.toArray Ts (xs.map fun x => (Value.ref x.2.1, x.2.2)) := ⟨by simp [hl, hxl], fun j k v hj => by
    rw [List.getElem?_map] at hj
    cases hx : xs[j]? with
    | none => rw [hx] at hj; simp at hj
    | some x =>
      rw [hx] at hj
      have hj : (Value.ref x.2.1, x.2.2) = (k, v) := by simpa using hj
      cases hj
      obtain ⟨h1, h2⟩ := ht j x hx
      exact ⟨by simpa using h1, h2⟩⟩
  refine call_dict_pairsH (knd := nestedKind X.prog X.w) (ps := xs) (PairArg.list a its.toArray Ts (xs.map fun x => (Value.ref x.2.1, x.2.2))) (I.ok.hd hc) ?_ ⟨⟨o, n, ho, hcl, hdd, hdat⟩, hpi⟩ ⟨by simp, fun i key v hr => ?_⟩ (fun h' hk' x hx => ?_) (by simpa using hz') fun h' tk hd' hkp => ?_
  · show X.A.units + 1 + 1 + 8 < cLine
    omega
  · have hr : (xs.map fun x => (Value.ref x.2.1, x.2.2))[i]? = some (key, v) := hr
    rw [List.getElem?_map] at hr
    cases hx : xs[i]? with
    | none => rw [hx] at hr; simp at hr
    | some x =>
      rw [hx] at hr
      have hr : (Value.ref x.2.1, x.2.2) = (key, v) := by simpa using hr
      cases hr
      exact ⟨x.1, x.2.1, rfl, rfl⟩
  · exact (nestedKind_stays (prog := X.prog) (w := X.w)).stays (fun b o vs n e _ => hk' b o (Nat.ne_of_lt (Heap.lt_size e)) (by simp) e) (kis x hx)
  · have hlen : (storedAllH [] xs).length ≤ sizeLine := by have := storedAllH_length xs ([] : List (NestedKey × Addr × Value)); simp at this; omega
    have hm : (s.heap.objs.size == sysModules) = false := beq_eq_false_iff_ne.mpr (Nat.ne_of_gt I.big)
    obtain ⟨ep, ok⟩ := dho_ok (P := X.prog) (w := X.w) (H' := upd H s.heap.objs.size (dHO X.prog X.w s.heap.objs.size (storedAllH [] xs) 0)) hlen hm hd'
    exact ⟨.ref s.heap.objs.size, _, I.laid (t' := tk) (o := dHO X.prog X.w s.heap.objs.size (storedAllH [] xs) ep) (fun b u e => hkp b u (by simp) e) (Nat.le_refl _) ok, rfl, q _ _ ep (I.hok.fresh (Nat.le_refl _)) (stored_pair hp .nil)⟩
end
section
variable (K : PySem.W.Frag) (B : Hp)
/-- a new dict -/
def EvK (P : Program) (w : World) (te : TE) (ρ : List Sl) (es : List (PyData × PyData)) : Prop := ∀ σ H, Ex B H → EnvOk K B H σ ρ → ∀ Q : VK, (∀ p xs ep H2, Ex H H2 → H p = none → H2 p = some (dHO P w p xs ep) → Paired (KE K H2) es xs → Q (.ref p) H2) → te σ H Q
end
section
variable {K : PySem.W.Frag} {B : Hp} {P : Program} {w : World} {ρ ρ' : List Sl} {te ti tv : TE} {es : List (PyData × PyData)} {S : Addr → Prop} {Z : Hp → Prop} {tz : TS} {D : Ends} {k v : PyData} {i j : Nat} {p : Addr}
theorem ke_ex {H H' : Hp} (e : Ex H H') {xs : List (NestedKey × Addr × Value)} (h : Paired (KE K H) es xs) : Paired (KE K H') es xs := Paired.mapP h fun _ _ z => z.tx (TX.of e)
theorem ek_new : EvK K B P w (tDNewN P w) ρ [] := fun σ H eb ok Q q p ep hp => q p [] ep _ (Evl.Ex.new hp) hp upd_same .nil
theorem ek_pairs {l : List (PyData × PyData)} (h : EvD K B te ρ (.list (l.map fun e => .tuple [e.1, e.2]))) (hk : ∀ e ∈ l, keyOk e.1 = true ∧ isPV e.2 = true) : EvK K B P w (tCB (rDictN K P w) (tCons te tNil)) ρ (putAll [] l) := fun σ H eb ok Q q => h σ H eb ok _ fun v H1 e1 h1 => by
  obtain ⟨a, ps, rfl, hs, ha⟩ := dp_lst h1
  exact ⟨a, ps, l, rfl, hs, ha, hk, fun d xs ep hd hp => q d xs ep _ (e1.tr (Evl.Ex.new hd)) (Evl.fresh_back e1 hd) upd_same (ke_ex (Evl.Ex.new hd) hp)⟩
theorem keys_dps {H : Hp} : ∀ {es : List (PyData × PyData)} {xs : List (NestedKey × Addr × Value)}, Paired (KE K H) es xs → DpAll K H (xs.map fun x => .ref x.2.1) (es.map (·.1))
  | _, _, .nil => .nil
  | _, _, .cons h t => .cons h.2.2.1 (keys_dps t)
theorem el_listN (h : EvK K B P w te ρ es) : EvL K B (tCB (rListN P w) (tCons te tNil)) ρ (es.map (·.1)) := fun σ H eb ok Q q => h σ H eb ok _ fun p xs ep H1 e1 hp h1 h2 =>
  ⟨p, xs, ep, rfl, h1, fun l hl => q l _ _ (e1.tr (Evl.Ex.new hl)) (Evl.fresh_back e1 hl) upd_same (dps_ex (Evl.Ex.new hl) _ _ (keys_dps h2))⟩
theorem el_listNv (h : ρ[i]? = some (.k p P w es)) : EvL K B (tCB (rListN P w) (tCons (tVar i) tNil)) ρ (es.map (·.1)) := fun σ H eb ok Q q => by
  obtain ⟨e1, xs, ep, h1, h2⟩ := ok.k h
  exact ⟨_, e1, p, xs, ep, rfl, h1, fun l hl => q l _ _ (Evl.Ex.new hl) hl upd_same (dps_ex (Evl.Ex.new hl) _ _ (keys_dps h2))⟩
theorem ed_nget (h : ρ[i]? = some (.k p P w es)) (hi : EvD K B ti ρ k) (hk : keyOk k = true) (hv : atD es k = some v) : EvD K B (tNGet K P w (tVar i) ti) ρ v := fun σ H eb ok Q q => by
  obtain ⟨e1, xs, ep, h1, h2⟩ := ok.k h
  exact ⟨_, e1, hi σ H eb ok _ fun y H1 ex hy => ⟨p, xs, ep, es, k, v, rfl, ex _ _ h1, ke_ex ex h2, hk, hy, hv, fun z hz => q z H1 ex hz⟩⟩
variable [zk : ZK S Z]
theorem q_asgK (h : EvK K B P w te ρ es) (c : ∀ p, New B S ρ p → TrR K B S Z tz (ρ.set i (.k p P w es)) D) : TrR K B S Z (tSeq (tAsg te (gName i)) tz) ρ D := fun σ H a =>
  h σ H a.eb a.ok _ fun p xs ep H1 e hp h1 h2 => c p (a.new hp) _ _ ((a.ex e).set ⟨rfl, xs, ep, h1, h2⟩)
theorem q_put (h : ρ[i]? = some (.k p P w es)) (hk : EvD K B ti ρ k) (hv : EvD K B tv ρ v) (ok : keyOk k = true) (pv : isPV v = true) (hB : B p = none) (hS : ¬ S p) (hl : es.length < 100000) (hρ : ρ.map (putL p (.k p P w (putD es k v))) = ρ') (c : TrR K B S Z tz ρ' D) :
    TrR K B S Z (tSeq (tNPut K P w (tVar i) ti tv) tz) ρ D := fun σ H a => hv σ H a.eb a.ok _ fun z H1 e1 hz => by
  obtain ⟨e2, xs, ep, h1, h2⟩ := a.ok.k h
  refine ⟨_, e2, hk σ H1 (a.eb.tr e1) (a.ok.ex e1) _ fun y H2 e3 hy => ⟨p, xs, ep, es, k, v, rfl, e3 _ _ (e1 _ _ h1), ke_ex (e1.tr e3) h2, ok, hy, pv, dp_ex e3 _ _ hz, Evl.sz_lt (by rw [← Paired.length h2]; exact hl), fun b u ep' hb hu => ?_⟩⟩
  subst hb
  have hp := e3 _ _ (e1 _ _ h1)
  have tx : TX H2 (upd H2 p (dHO P w p (storedH xs (keyN k) b u) ep')) := TX.upd hp rfl
  have h4 := ((a.ex e1).ex e3).upd (s' := .k p P w (putD es k v)) hp rfl hB hS ⟨rfl, _, ep', upd_same, Paired.mapP (putD_pair ok hy hu (ke_ex (e1.tr e3) h2)) fun _ _ z => z.tx tx⟩
  rw [hρ] at h4
  exact c _ _ h4
end
end Fk
/-! enumerate(t), t a tuple -/
namespace Fk
open PySem PySem.Spec PyProof.Rows L2
theorem enum_newT (t : Addr) (items : Array Value) : Meets (Builtin.«enumerate.__new__» ⟨[.type "enumerate", .ref t], []⟩) (fun _ R s => s.heap.IsTuple t items ∧
      R (.ok (.ret (.ref (s.heap.push { cls := .type "tuple_iterator", data := .fields #[.ref t, .int 0 0] }).objs.size)))
        { s with heap := (s.heap.push { cls := .type "tuple_iterator", data := .fields #[.ref t, .int 0 0] }).push { cls := .type "enumerate", data := .fields #[.none, .bool false, .ref s.heap.objs.size, rawInt 0, .none, .none] } }) :=
  .of_wp fun prog w A R s ⟨ht, h⟩ => by
    have hsub := sub_enumerate
    have it : ∀ {A : Around} {E : Value → Shared → Prop} {Q : Value → Shared → Prop} (_ : Q (.ref s.heap.objs.size) { s with heap := s.heap.push { cls := .type "tuple_iterator", data := .fields #[.ref t, .int 0 0] } }), wpAny (model prog w) A (pyIter (.ref t)) Q E s := fun q => wpAny_pyIter_tuple ht q
    obtain ⟨hp, g, d, tk, os⟩ := s
    wp_walk
    refine wpAny_stack_any fun st => wpAny_pure ?_
    split
    · rename_i c _ _ _ _ _
      cases (c == Value.type "enumerate")
      · wp_walk using it
        exact ⟨_, rfl, h⟩
      · wp_walk using it
        exact ⟨_, rfl, h⟩
    · wp_walk using it
      exact ⟨_, rfl, h⟩
section
variable {prog : Program} {w : World} {A : Around} {E : Value → Shared → Prop} {s : Shared}
theorem enum_tuple {t : Addr} {items : Array Value} {Q : Value → Shared → Prop} (ht : s.heap.IsTuple t items)
    (h : ∀ h', IsEnum h' (s.heap.objs.size + 1) s.heap.objs.size 0 .none → h'.IsTupleIter s.heap.objs.size t 0 → (∀ b o, s.heap.get? b = some o → h'.get? b = some o) → Q (.ref (s.heap.objs.size + 1)) { s with heap := h' }) :
    wpAny (model prog w) A (call (.type "enumerate") [.ref t]) Q E s := by
  refine callType_new F.called_enumerate (by decide) (F.typeCall_enumerate_1 _) (F.newCall_enumerate_1 _) (fun obj => F.args_object_init_2 obj _) F.entry_enumerate_new (enum_newT t items) ⟨ht, ?_⟩
  have hz : (s.heap.push { cls := .type "tuple_iterator", data := .fields #[.ref t, .int 0 0] }).objs.size = s.heap.objs.size + 1 := Heap.size_push ..
  show _ ∧ _
  rw [hz]
  have he := Heap.get?_push_size (s.heap.push { cls := .type "tuple_iterator", data := .fields #[.ref t, .int 0 0] }) (o := { cls := .type "enumerate", data := .fields #[.none, .bool false, .ref s.heap.objs.size, rawInt 0, .none, .none] }) rfl
  rw [hz] at he
  exact ⟨⟨_, he, rfl⟩, h _ he ⟨_, Heap.get?_push_of_some _ (Heap.get?_push_size _ rfl), rfl, rfl⟩ fun b o x => Heap.get?_push_of_some _ (Heap.get?_push_of_some _ x)⟩
end

/-- the tuple at a, its items in new pairs -/
def Itet (K : PySem.W.Frag) (a : Addr) : It :=
  ⟨fun i H => ∃ (xs : List V) (x : V), SqT K H a xs ∧ xs[i]? = some x, fun i H v H' => ∃ T x, v = .ref T ∧ H T = none ∧ H' = L2.upd H T (.tup [.int (i : Nat), x]) ∧ ∀ xs, SqT K H a xs → xs[i]? = some x, fun i H => ∃ xs : List V, SqT K H a xs ∧ xs.length = i⟩
theorem tup_items {h : Heap} {a : Addr} {its : Array Value} (p : IsTup h a its) : h.IsTuple a its := by
  obtain ⟨o, ho, hc, n, hd⟩ := p
  exact ⟨o, ho, hc, n, hd⟩
theorem turn_enumT {P : Program} {w : World} {K : PySem.W.Frag} {elts : List Expr} {kk : Nat} {tpos : Pos} (a e it : Addr) :
    Turn P w K (.Tuple elts kk tpos) (Itet K a) [e, it] e (fun i h => (∃ old, IsEnum h e it ((i : Nat) : Int) old) ∧ h.IsTupleIter it a i ∧ e ≠ it) where
  mem := by simp
  obj := fun i h st b hb => by
    obtain ⟨⟨old, he⟩, ⟨o, ho, hc, hd⟩, _⟩ := st
    have z : b = e ∨ b = it := by simpa using hb
    rcases z with rfl | rfl
    · exact ⟨_, he, fun v q => nomatch q⟩
    · exact ⟨o, ho, fun v q => by rw [hd] at q; cases q⟩
  keep := fun i h h' st k => by
    obtain ⟨⟨old, he⟩, hi, hne⟩ := st
    exact ⟨⟨old, k e (by simp) _ he⟩, hi.at fun o q => k it (by simp) o q, hne⟩
  item := by
    intro X hP hw hK hc i pins s σ H E I hf st hg
    subst hP hw hK
    obtain ⟨⟨old, he⟩, hit, hne⟩ := st
    obtain ⟨xs, x, hq, hx⟩ := hg
    obtain ⟨its, rv, p, hz⟩ := I.tuple hq
    obtain ⟨u, hu, ru⟩ := rv.get hx
    have ht := tup_items p
    have hil : it < s.heap.objs.size := by obtain ⟨_, q, _⟩ := hit; exact Heap.lt_size q
    have hel : e < s.heap.objs.size := Heap.lt_size he
    have hai : a ≠ it := fun z => by
      obtain ⟨o1, h1, c1, _⟩ := ht
      obtain ⟨o2, h2, c2, _⟩ := hit
      rw [z, h2] at h1; cases h1
      rw [c2] at c1; exact absurd c1 (by decide)
    have hea : e ≠ a := fun z => by
      obtain ⟨o1, h1, c1, _⟩ := ht
      rw [← z, he] at h1; cases h1
      have c1 : Value.type "enumerate" = Value.type "tuple" := c1
      exact absurd c1 (by decide)
    have lt : i < its.toArray.size := by
      have := (List.getElem?_eq_some_iff.mp hu).1
      simpa using this
    refine wpAny_pyNext_enum_itemD (Draws.tuple (A := X.A.in1) (I.ok.hd hc) it a hai its.toArray) he ⟨hit, ht⟩ lt hne (by simp; exact ⟨hne, hea⟩) fun y h' tk hP ho st' hT hsz hk => ?_
    have hy : u = y := by
      have h1 : its.toArray[i]? = some u := by simpa using hu
      rw [h1] at hP; exact Option.some.inj hP
    subst hy
    refine ⟨_, rfl, wpAny_letOwnedTupleGo_enum (s := { s with heap := h', toks := tk + 1 }) ho fun h'' he' sb => ?_⟩
    have hT2 : h''.get? s.heap.objs.size = some { cls := .type "tuple", data := .seq #[.int i tk, u] } := (sb.2 _ (Nat.ne_of_gt hel)).trans hT
    have new : ObjOk X.prog X.w (L2.upd H s.heap.objs.size (.tup [.int (i : Nat), x])) h'' s.heap.objs.size (.tup [.int (i : Nat), x]) := ⟨by show 2 ≤ sizeLine; decide, [.int i tk, u], .cons ⟨_, rfl⟩ (.cons ru .nil), ⟨_, hT2, rfl, _, rfl⟩⟩
    have I1 : Inv X pins σ (L2.upd H s.heap.objs.size (.tup [.int (i : Nat), x])) { s with heap := h'', toks := tk + 1 } :=
      I.turnedNew (ch := [e, it]) (fun b ob hb q => (sb.2 b (fun z => hb (by simp [z]))).trans (hk b ob (fun z => hb (by simp [z])) (fun z => hb (by simp [z])) q)) hf (Nat.le_refl _) new
    refine ⟨.ref s.heap.objs.size, _, I1, rfl, ⟨_, x, rfl, I.hok.fresh (Nat.le_refl _), rfl, fun ys hy => by rw [I.tuple_inj hy hq]; exact hx⟩, ⟨⟨u, ?_⟩, st'.1.at fun o q => (sb.2 it (Ne.symm hne)).trans q, hne⟩, fun b hb => ?_⟩
    · have e1 : ((i + 1 : Nat) : Int) = (i : Int) + 1 := by omega
      rw [e1]; exact he'
    · have hb' : b < s.heap.objs.size := by
        have z : b = e ∨ b = it := by simpa using hb
        rcases z with rfl | rfl
        · exact hel
        · exact hil
      rw [L2.upd_ne (Nat.ne_of_lt hb')]
      exact (hf b hb).1
  done := by
    intro X hP hw hK hc i pins s σ H E I hf st hg
    subst hP hw hK
    obtain ⟨⟨old, he⟩, hit, hne⟩ := st
    obtain ⟨xs, hq, hx⟩ := hg
    obtain ⟨its, rv, p, hz⟩ := I.tuple hq
    have ht := tup_items p
    obtain ⟨f0, f1, f2, f3, f4, f5⟩ := hf it (by simp)
    have hai : a ≠ it := fun z => by
      obtain ⟨o1, h1, c1, _⟩ := ht
      obtain ⟨o2, h2, c2, _⟩ := hit
      rw [z, h2] at h1; cases h1
      rw [c2] at c1; exact absurd c1 (by decide)
    have hsz : its.toArray.size = i := by
      have := rv.length
      simp
      omega
    exact wpAny_pyNext_enum_endD (Draws.tuple (A := X.A.in1) (I.ok.hd hc) it a hai its.toArray) he ⟨by rw [hsz]; exact hit, ht⟩ fun h' eb => ⟨rfl, I.turned (t' := s.toks) (fun b o hb q => eb b o hb q) f0 f1 f3 f4 f5⟩
  self := fun A i s Q E st h => let ⟨⟨_, he⟩, _⟩ := st; wpAny_pyIter_enum he h

def iEnumT (K : PySem.W.Frag) (ta : TA) : TI := fun σ H R => ta σ H fun vs H1 => ∃ a xs, vs = [.ref a] ∧ SqT K H1 a xs ∧ R (Itet K a) H1
theorem pi_enumT {X : Cx} {e : Expr} {ta : TA} {p pos tpos : Pos} {elts : List Expr} {kk : Nat} (hg : Gl X "enumerate") (hm : X.mg "enumerate" = none) (ha : PA X [e] ta) (hs : starEach [e] X.env = [(false, eval e X.env)] := by rfl) :
    PI X (.Tuple elts kk tpos) (.Call (.Name "enumerate" p) [e] [] pos) (iEnumT X.K ta) := by
  refine ⟨fun pins s σ H R I h => ?_⟩
  refine Call_ (ld_blt I hg hm boot_enumerate (PyProof.Rows.callWith_type1 (thn (ha.run pos pins s σ H _ I h) fun us s1 ⟨vs, H1, I1, r1, q1⟩ => ?_) hs rfl))
  obtain ⟨a, xs, rfl, hq, q⟩ := q1
  obtain ⟨u, rfl, ru⟩ := vals1 r1
  cases ru
  obtain ⟨its, rv, p', hz⟩ := I1.tuple hq
  refine enum_tuple (tup_items p') fun h' he hit hk => wpAny_pyIter_enum he ?_
  have I2 : Inv X pins σ H1 { s1 with heap := h' } := I1.kept (t' := s1.toks) hk
  refine ⟨s1.heap.objs.size + 1, [s1.heap.objs.size + 1, s1.heap.objs.size], _, _, H1, rfl, I2, turn_enumT a (s1.heap.objs.size + 1) s1.heap.objs.size, ⟨⟨.none, he⟩, hit, Nat.succ_ne_self _⟩, fun b hb => ?_, q⟩
  have z : b = s1.heap.objs.size + 1 ∨ b = s1.heap.objs.size := by simpa using hb
  have hle : s1.heap.objs.size ≤ b := by
    rcases z with z | z
    · rw [z]; exact Nat.le_add_right _ _
    · rw [z]; exact Nat.le_refl _
  exact I1.fpOk hle (I1.hok.fresh hle)
end Fk
/-! sorted(t), t a tuple of ints; set(t) -/
namespace Fk
open PySem PySem.Spec PyProof.Rows L2 Srt SrtO
section
variable {prog : Program} {w : World} {A : Around} {E : Value → Shared → Prop} {s : Shared}
theorem sorted_tupI {t : Addr} {vs : List Value} {ns : List Int} {Q : Value → Shared → Prop} (ht : s.heap.IsTuple t vs.toArray) (hi : IntsAre vs ns) (hz : vs.length ≤ sizeLine)
    (q : ∀ out : List Value, Srtd ltIv out → Stb ltIv out vs → Q (.ref (gatherT s.heap vs).objs.size) { s with heap := sortedHeap ((gatherT s.heap vs).push (seqObj "list" vs.toArray 0)) (gatherT s.heap vs).objs.size vs out.toArray }) :
    wpAny (model prog w) A (call (.builtin "sorted") [.ref t]) Q E s := by
  refine Calls.call_function_entry kind_sorted plain_sorted entry_sorted (args_sorted1 _) ?_
  unfold Builtin.«sorted»
  refine wpAny_bind (m := checkCount "sorted" 1 1 _) (wpAny_pure ?_)
  refine wpAny_bind (gather_tup ht hz ?_)
  refine wpAny_bind (wpAny_newList ?_ hz)
  have hoL : ((gatherT s.heap vs).push (seqObj "list" vs.toArray 0)).get? (gatherT s.heap vs).objs.size = some (seqObj "list" vs.toArray 0) := Heap.get?_push_size _ rfl
  show wpAny _ _ _ _ _ { s with heap := (gatherT s.heap vs).push (seqObj "list" vs.toArray 0) }
  refine wpAny_bind (wpAny_holding (wpAny_call_entry slot_list_sort ⟨_, hoL, rfl⟩ entry_list_sort (list_sort_ord swo_int hoL hz (fun h2 => ints_sortable hi h2) fun out h1 h2 => ⟨_, rfl, wpAny_pure ⟨_, rfl, q out h1 h2⟩⟩) (args_list_sort _)))
end
def rSortTI (K : PySem.W.Frag) : List V → Hp → VK → Prop := fun vs H Q => ∃ (a : Addr) (ns : List Int), vs = [V.ref a] ∧ SqT K H a (ns.map V.int) ∧ ∀ (ms : List Int) (p : Addr), ms.Perm ns → ms.Pairwise (· ≤ ·) → H p = none → Q (.ref p) (upd H p (.lst (ms.map V.int)))
/-- set(t) -/
def rSetT (K : PySem.W.Frag) (w : World) : List V → Hp → VK → Prop := fun vs H Q => ∃ (a : Addr) (ns : List Int), vs = [V.ref a] ∧ SqT K H a (ns.map V.int) ∧ ns.length ≤ 60 ∧ ∀ (p : Addr) (n : Nat), n ≤ ns.length → H p = none → Q (.ref p) (upd H p (SetO w p (fun j => decide (j ∈ ns)) n))
section
variable {X : Cx}
theorem cr_sortedTI : CallR X (.builtin "sorted") (rSortTI X.K) := by
  intro pins s σ H vs us Q I r h
  obtain ⟨a, ns, rfl, hs, q⟩ := h
  obtain ⟨its, rv, ⟨o, ho, hc, m, hd⟩, hz⟩ := I.tuple hs
  rw [Vals.ref1 r]
  have hi := rv.ints
  have hz' : its.length ≤ sizeLine := by rw [← rv.length]; exact hz
  refine sorted_tupI ⟨o, ho, hc, m, hd⟩ hi hz' fun out h1 h2 => ?_
  obtain ⟨k1, k2, k3⟩ := ints_out hi h1 h2
  have hsz : s.heap.objs.size ≤ (gatherT s.heap its).objs.size := by
    unfold gatherT
    rw [Heap.size_update, Heap.size_push]
    exact Nat.le_succ _
  obtain ⟨ep, he⟩ := sortedHeap_at (h := (gatherT s.heap its).push (seqObj "list" its.toArray 0)) (a := (gatherT s.heap its).objs.size) (vs := its) (out := out.toArray) (Heap.get?_push_size _ rfl)
  have hlen : ((out.map iv).map V.int).length ≤ sizeLine := by
    rw [List.length_map, k2.length_eq]
    rw [List.length_map] at hz
    exact hz
  have keep : ∀ b u, s.heap.get? b = some u → (sortedHeap ((gatherT s.heap its).push (seqObj "list" its.toArray 0)) (gatherT s.heap its).objs.size its out.toArray).get? b = some u := fun b u e => by
    have lt := Heap.lt_size e
    rw [sortedHeap_old (Nat.ne_of_lt (Nat.lt_of_lt_of_le lt hsz)) (by rw [Heap.size_push]; exact Nat.lt_succ_of_lt (Nat.lt_of_lt_of_le lt hsz))]
    exact Heap.get?_push_of_some _ (gather_old e)
  exact ⟨.ref _, upd H (gatherT s.heap its).objs.size (.lst ((out.map iv).map V.int)), I.laid (t' := s.toks) keep hsz ⟨hlen, out, ep, vals_of_ints k1, he⟩, rfl, q _ _ k2 k3 (I.hok.fresh hsz)⟩
theorem cr_setT (hc : X.calm = true) : CallR X (.type "set") (rSetT X.K X.w) := by
  intro pins s σ H vs us Q I r h
  obtain ⟨a, ns, rfl, hs, hl, q⟩ := h
  obtain ⟨its, rv, ⟨o, ho, hcl, m, hd⟩, hz⟩ := I.tuple hs
  rw [Vals.ref1 r]
  refine call_set_tupI (items := its.toArray) ns (I.ok.hd hc) ⟨o, ho, hcl, m, hd⟩ (by simpa using rv.ints) (by unfold scanBound; omega) fun h' tk c new hcn k => ?_
  exact ⟨.ref _, _, I.laid (t' := tk) k (Nat.le_refl _) (setO_new new), rfl, q _ c hcn (I.hok.fresh (Nat.le_refl _))⟩
end
section
variable {K : PySem.W.Frag} {B : Hp} {w : World} {ρ : List Sl} {te : TE} {ns : List Int}
theorem dp_intsT {H : Hp} {v : V} (h : Dp K H v (.tuple (ns.map .int))) : ∃ a, v = .ref a ∧ SqT K H a (ns.map V.int) := by
  obtain ⟨a, xs, rfl, hs, ha⟩ := dp_tup h
  rw [dps_ints ha] at hs
  exact ⟨a, rfl, hs⟩
theorem el_sortTI (h : EvD K B te ρ (.tuple (ns.map .int))) : EvL K B (tCB (rSortTI K) (tCons te tNil)) ρ ((sortI ns).map .int) := fun σ H eb ok Q q => h σ H eb ok _ fun v H1 e1 h1 => by
  obtain ⟨a, rfl, hs⟩ := dp_intsT h1
  refine ⟨a, ns, rfl, hs, fun ms p k1 k2 hp => ?_⟩
  rw [sortI_is k1 k2]
  exact q p _ _ (e1.tr (Evl.Ex.new hp)) (Evl.fresh_back e1 hp) upd_same (dps_of_ints _)
/-- sorted(set(t)) -/
theorem el_sortSet (h : EvD K B te ρ (.tuple (ns.map .int))) (hl : ns.length ≤ 60) {ms : List Int} (h1 : ms.Pairwise (· < ·)) (h2 : ∀ k, k ∈ ms ↔ k ∈ ns) : EvL K B (tCB (rSortedSet w) (tCons (tCB (rSetT K w) (tCons te tNil)) tNil)) ρ (ms.map .int) := fun σ H eb ok Q q => h σ H eb ok _ fun v H1 e1 hv => by
  obtain ⟨a, rfl, hs⟩ := dp_intsT hv
  refine ⟨a, ns, rfl, hs, hl, fun p n hn hp => ⟨p, _, n, rfl, upd_same, by omega, fun ms' p' k1 k2 k3 hp' => ?_⟩⟩
  have e : ms' = ms := by
    have pm : ms'.Perm ms := (List.perm_ext_iff_of_nodup (k1.imp fun h => Int.ne_of_lt h) (h1.imp fun h => Int.ne_of_lt h)).mpr fun k => by rw [k2, h2]; simp
    exact List.Perm.eq_of_pairwise (fun _ _ _ _ x y => absurd x (Int.lt_asymm y)) k1 h1 pm
  rw [e]
  have ex : Ex H1 (upd H1 p (SetO w p (fun j => decide (j ∈ ns)) n)) := Evl.Ex.new hp
  exact q p' _ _ ((e1.tr ex).tr (Evl.Ex.new hp')) (Evl.fresh_back (e1.tr ex) hp') upd_same (dps_of_ints _)
end
end Fk
/-! enumerate, comprehensions over dicts and of lists, list + list -/
namespace Fk
open PySem PySem.Spec PyProof.Rows L2
section
variable {K : PySem.W.Frag} {B H H' : Hp} {S : Addr → Prop} {Z : Hp → Prop} {ρ ρ' : List Sl} {σ : L2.St} {ta tb te tl : TE} {t u : TT} {x y z d : PyData} {ds es : List PyData} {tu tv tz : TS} {D : Ends}
/-! list + list -/
theorem el_catLL (h1 : EvL K B ta ρ ds) (h2 : EvL K B tb ρ es) (hl : ds.length + es.length ≤ 100000) : EvL K B (tOp rCat ta tb) ρ (ds ++ es) := fun σ H eb ok Q q => h1 σ H eb ok _ fun p vs H1 e1 hp k1 k2 => h2 σ H1 (eb.tr e1) (ok.ex e1) _ fun p2 ws H2 e2 hp2 k3 k4 =>
  ⟨p, p2, vs, ws, rfl, rfl, e2 _ _ k1, k3, sz_of (by rw [dps_len k2, dps_len k4]; exact hl), fun l hn => q l _ _ ((e1.tr e2).tr (Evl.Ex.new hn)) (Evl.fresh_back (e1.tr e2) hn) upd_same (dps_ex (Evl.Ex.new hn) _ _ (dps_app (dps_ex e2 _ _ k2) k4))⟩
theorem el_catVL {i : Nat} {p : Addr} (h1 : ρ[i]? = some (.l p ds)) (h2 : EvL K B tb ρ es) (hl : ds.length + es.length ≤ 100000) : EvL K B (tOp rCat (tVar i) tb) ρ (ds ++ es) := fun σ H eb ok Q q => by
  obtain ⟨e1, vs, k1, k2, k3⟩ := ok.l h1
  exact ⟨_, e1, h2 σ H eb ok _ fun p2 ws H2 e2 hp2 k3 k4 => ⟨p, p2, vs, ws, rfl, rfl, e2 _ _ k1, k3, sz_of (by rw [dps_len k2, dps_len k4]; exact hl), fun l hn => q l _ _ (e2.tr (Evl.Ex.new hn)) (Evl.fresh_back e2 hn) upd_same (dps_ex (Evl.Ex.new hn) _ _ (dps_app (dps_ex e2 _ _ k2) k4))⟩⟩
/-! [e for k in d], d a slot's dict -/
theorem el_lcK {P : Program} {w : World} {i j : Nat} {p : Addr} {es : List (PyData × PyData)} {f : PyData × PyData → PyData} (h : ρ[i]? = some (.k p P w es)) (hl : es.length ≤ 50000)
    (he : ∀ e ∈ es, EvD K B te (ρ.set j (.d e.1)) (f e)) (hn : ∀ e ∈ es, noL (f e) = true) : EvL K B (tLc (iKeysN P w (tVar i)) (gName j) tYes te [j]) ρ (es.map f) := fun σ H eb ok Q q => by
  obtain ⟨e1, xs, ep, h1, h2⟩ := ok.k h
  have hxl : es.length = xs.length := Paired.length h2
  refine ⟨_, e1, p, xs, ep, rfl, h1, fun D hD => ⟨fun i m H' => m = xs.length - i ∧ i ≤ xs.length ∧ Acc K H D (((es.take i).filter fun _ => true).map f) H', ⟨xs.length, by simp, Nat.zero_le _, by simpa using acc0 hD⟩, ?_⟩⟩
  rintro i m H' ⟨rfl, hi, a⟩
  have hp : H' p = some (dHO P w p xs ep) := a.2.1 _ _ h1
  by_cases hlt : i < xs.length
  · refine .inr ⟨⟨hp, hlt⟩, fun H2 => Acc K H D (((es.take (i + 1)).filter fun _ => true).map f) H2, fun H2 a2 => ⟨xs.length - (i + 1), by omega, rfl, hlt, a2⟩, fun x H2 yl => ?_⟩
    obtain ⟨rfl, k, hk, rfl⟩ := yl
    obtain ⟨e, he'⟩ : ∃ e, es[i]? = some e := ⟨_, List.getElem?_eq_getElem (by omega)⟩
    have hm := List.mem_of_getElem? he'
    have ke : KE K H2 e k := by
      have all : ∀ {es : List (PyData × PyData)} {xs : List (NestedKey × Addr × Value)}, Paired (KE K H) es xs → ∀ (i : Nat) e k, es[i]? = some e → xs[i]? = some k → KE K H e k := by
        intro es xs q
        induction q with
        | nil => intro i e k h; simp at h
        | cons hq t ih =>
          intro i e k h h'
          cases i with
          | zero => simp at h h'; subst h h'; exact hq
          | succ i => exact ih i e k (by simpa using h) (by simpa using h')
      exact (all h2 i e k he' hk).tx (TX.of a.2.1)
    exact lc_turn (K := K) (B := B) (ρ := ρ) (s := .d e.1) (keep := fun _ => true) he' hl ⟨_, rfl, .inr ⟨itD_noL _ (keyOk_it ke.2.1), ke.2.2.1⟩⟩ (eb.tr a.2.1) (ok.ex a.2.1) a et_yes (fun _ => he e hm) (fun b hb _ => hn b hb)
  · have ei : i = xs.length := by omega
    subst ei
    refine .inl ⟨⟨hp, Nat.le_refl _⟩, ?_⟩
    obtain ⟨h0, h3, acc, h4, h5⟩ := a
    rw [← hxl, List.take_length, List.filter_eq_self.mpr fun _ _ => rfl] at h5
    exact q D acc H' h3 h0 h4 h5
/-! lists of lists -/
def LL (K : PySem.W.Frag) (H : Hp) (D : Addr) (v : V) (ds : List PyData) : Prop := ∃ p vs, v = .ref p ∧ p ≠ D ∧ H p = some (.lst vs) ∧ DpAll K H vs ds ∧ noLs ds = true
theorem ll_dps {D : Addr} : ∀ {acc : List V} {out : List (List PyData)}, Paired (LL K H D) acc out → DpAll K H acc (out.map .list)
  | _, _, .nil => .nil
  | _, _, .cons h t => by
    obtain ⟨p, vs, rfl, _, h1, h2, _⟩ := h
    exact .cons (.lst (SqL.of h1) h2) (ll_dps t)
def Acc2 (K : PySem.W.Frag) (H1 : Hp) (D : Addr) (out : List (List PyData)) (H : Hp) : Prop := H1 D = none ∧ Ex H1 H ∧ ∃ acc, H D = some (.lst acc) ∧ Paired (LL K H D) acc out
theorem ll_turn {α : Type} {xs : List α} {i : Nat} {a : α} {v : V} {s : Sl} {H1 H' : Hp} {D : Addr} {σ : L2.St} {j : Nat} {f : α → List PyData} (hi : xs[i]? = some a) (hlen : xs.length ≤ 50000)
    (hv : SlotOk K B H' (some v) s) (eb : Ex B H') (ok : EnvOk K B H' σ ρ) (p : Acc2 K H1 D ((xs.take i).map f) H') (he : EvL K B te (ρ.set j s) (f a)) (hn : noLs (f a) = true) :
    gName j v (wipe σ [j]) H' fun σ2 H2 => wipe σ2 [j] = wipe σ [j] ∧ tYes σ2 H2 fun b H3 => if b = true then te σ2 H3 fun y H4 => ∃ acc, H4 D = some (.lst acc) ∧ acc.length < sizeLine ∧ Acc2 K H1 D ((xs.take (i + 1)).map f) (upd H4 D (.lst (acc ++ [y]))) else Acc2 K H1 D ((xs.take (i + 1)).map f) H3 := by
  show wipe ((wipe σ [j]).set j (some v)) [j] = wipe σ [j] ∧ te ((wipe σ [j]).set j (some v)) H' _
  rw [wipe1s]
  refine ⟨by rw [← wipe1s (σ := σ), wipe1], ?_⟩
  obtain ⟨h0, h1, acc, h2, h3⟩ := p
  have hal : acc.length = ((xs.take i).map f).length := Paired.length h3
  refine he _ H' eb (ok.set hv j) _ fun q vs H4 e4 hq k1 k2 => ⟨acc, e4 _ _ h2, Evl.sz_lt (by rw [hal, List.length_map, List.length_take]; omega), h0, Evl.Ex.mut (h1.tr e4) h0, acc ++ [.ref q], upd_same, ?_⟩
  have hqD : q ≠ D := fun z => by rw [z, h2] at hq; cases hq
  have tx : TX H4 (upd H4 D (.lst (acc ++ [.ref q]))) := TX.upd (e4 _ _ h2) rfl
  have et : (xs.take (i + 1)).map f = (xs.take i).map f ++ [f a] := by rw [List.take_add_one, hi, List.map_append]; rfl
  rw [et]
  refine Paired.snoc (Paired.mapP h3 fun v ds l => ?_) ⟨q, vs, rfl, hqD, by rw [upd_ne hqD]; exact k1, dps_tx tx _ _ hn k2, hn⟩
  obtain ⟨p', ws, rfl, n1, n2, n3, n4⟩ := l
  exact ⟨p', ws, rfl, n1, by rw [upd_ne n1]; exact e4 _ _ n2, dps_tx tx _ _ n4 (dps_ex e4 _ _ n3), n4⟩
theorem ed_llT {α : Type} {xs : List α} {enc : α → PyData} {f : α → List PyData} {j : Nat} (h : EvD K B tl ρ (.tuple (xs.map enc))) (hlen : xs.length ≤ 50000) (hx : ∀ a ∈ xs, noL (enc a) = true)
    (he : ∀ a ∈ xs, EvL K B te (ρ.set j (.d (enc a))) (f a)) (hn : ∀ a ∈ xs, noLs (f a) = true) : EvD K B (tLc (iTup K tl) (gName j) tYes te [j]) ρ (.list (xs.map fun a => .list (f a))) := fun σ H eb ok Q q => h σ H eb ok _ fun v H1 e1 h1 => by
  obtain ⟨a, ys, rfl, hs, ha⟩ := dp_tup h1
  have hyl : ys.length = xs.length := by rw [dps_len ha, List.length_map]
  refine ⟨a, rfl, ⟨ys, hs⟩, fun D hD => lc_tup (K := K) (a := a) (xs := ys) (fun i H' => Acc2 K H1 D ((xs.take i).map f) H') ⟨hD, Evl.Ex.new hD, [], upd_same, by simpa using Paired.nil⟩ (fun i H' _ p => Evl.ex_t p.2.1 hs) (fun i y H' hy p => ?_) fun H' p => ?_⟩
  · obtain ⟨d, hd, hyd⟩ := dps_get ha hy
    rw [List.getElem?_map] at hd
    cases hxi : xs[i]? with
    | none => rw [hxi] at hd; simp at hd
    | some c =>
      rw [hxi] at hd
      obtain rfl : enc c = d := by simpa using hd
      have hm := List.mem_of_getElem? hxi
      exact ll_turn (s := .d (enc c)) hxi hlen ⟨_, rfl, .inr ⟨hx c hm, dp_ex p.2.1 _ _ hyd⟩⟩ ((eb.tr e1).tr p.2.1) ((ok.ex e1).ex p.2.1) p (he c hm) (hn c hm)
  · obtain ⟨h0, h2, acc, h3, h4⟩ := p
    rw [hyl, List.take_length] at h4
    have := ll_dps h4
    rw [List.map_map] at this
    exact q _ H' (e1.tr h2) (.lst (SqL.of h3) this)
theorem ed_llL {α : Type} {xs : List α} {enc : α → PyData} {f : α → List PyData} {j : Nat} (h : EvD K B tl ρ (.list (xs.map enc))) (hlen : xs.length ≤ 50000) (hx : ∀ a ∈ xs, noL (enc a) = true)
    (he : ∀ a ∈ xs, EvL K B te (ρ.set j (.d (enc a))) (f a)) (hn : ∀ a ∈ xs, noLs (f a) = true) : EvD K B (tLc (iList K tl) (gName j) tYes te [j]) ρ (.list (xs.map fun a => .list (f a))) := fun σ H eb ok Q q => h σ H eb ok _ fun v H1 e1 h1 => by
  obtain ⟨a, ys, rfl, hs, ha⟩ := dp_lst h1
  have hyl : ys.length = xs.length := by rw [dps_len ha, List.length_map]
  refine ⟨a, rfl, ⟨ys, hs⟩, fun D hD => lc_list (K := K) (a := a) (xs := ys) (fun i H' => Acc2 K H1 D ((xs.take i).map f) H') ⟨hD, Evl.Ex.new hD, [], upd_same, by simpa using Paired.nil⟩ (fun i H' _ p => Evl.ex_l p.2.1 hs) (fun i y H' hy p => ?_) fun H' p => ?_⟩
  · obtain ⟨d, hd, hyd⟩ := dps_get ha hy
    rw [List.getElem?_map] at hd
    cases hxi : xs[i]? with
    | none => rw [hxi] at hd; simp at hd
    | some c =>
      rw [hxi] at hd
      obtain rfl : enc c = d := by simpa using hd
      have hm := List.mem_of_getElem? hxi
      exact ll_turn (s := .d (enc c)) hxi hlen ⟨_, rfl, .inr ⟨hx c hm, dp_ex p.2.1 _ _ hyd⟩⟩ ((eb.tr e1).tr p.2.1) ((ok.ex e1).ex p.2.1) p (he c hm) (hn c hm)
  · obtain ⟨h0, h2, acc, h3, h4⟩ := p
    rw [hyl, List.take_length] at h4
    have := ll_dps h4
    rw [List.map_map] at this
    exact q _ H' (e1.tr h2) (.lst (SqL.of h3) this)
variable [zk : ZK S Z]
theorem Z_tx {S : Addr → Prop} {Z : Hp → Prop} [zk : ZK S Z] {b : Addr} {ys : List V} {xs : List PyData} (hno : noLs xs = true) : ZK S (fun H => Z H ∧ SqT K H b ys ∧ DpAll K H ys xs) :=
  ⟨fun {H H'} z q => by
    have tx : TX H H' := fun c zs r => by
      rcases r with r | ⟨ob, r⟩
      · exact .inl (q c _ r (.inr rfl))
      · exact .inr ⟨ob, q c _ r (.inr rfl)⟩
    exact ⟨zk.st z.1 q, tx.sq z.2.1, dps_tx tx _ _ hno z.2.2⟩, fun z s => zk.ne z.1 s⟩
/-- for i, x in enumerate(t), t a tuple -/
theorem q_forET {α : Type} {xs : List α} {enc : α → PyData} {tb : TS} {i0 j0 : Nat} (h : EvD K B tl ρ (.tuple (xs.map enc))) (hx : ∀ a ∈ xs, noL (enc a) = true) (P : Nat → List Sl → Prop) (h0 : P 0 ρ)
    (hb : ∀ (Z' : Hp → Prop) [ZK S Z'], (∀ H, Z' H → Z H) → ∀ (i : Nat) a ρ', xs[i]? = some a → P i ρ' → TrR K B S Z' tb ((ρ'.set i0 (.d (.int (i : Int)))).set j0 (.d (enc a))) (inLoop K B S Z' (P (i + 1)) D tz))
    (k : ∀ ρ', P xs.length ρ' → TrR K B S Z tz ρ' D) : TrR K B S Z (tSeq (tFor (iEnumT K (tCons tl tNil)) (gTup K 2 (gCons (gName i0) (gCons (gName j0) gNil))) tb) tz) ρ D := fun σ H a =>
  h σ H a.eb a.ok _ fun v H1 e h1 => by
    obtain ⟨b, ys, rfl, hs, hd⟩ := dp_tup h1
    have hno : noLs (xs.map enc) = true := noLs_map hx
    have hyl : ys.length = xs.length := by rw [dps_len hd, List.length_map]
    have zk' : ZK S (fun H => Z H ∧ SqT K H b ys ∧ DpAll K H ys (xs.map enc)) := Z_tx hno
    have a1 := a.ex e
    refine ⟨b, ys, rfl, hs, fun i m σ H => m = ys.length - i ∧ i ≤ ys.length ∧ lf K B S (fun H => Z H ∧ SqT K H b ys ∧ DpAll K H ys (xs.map enc)) (P i) σ H, ⟨ys.length, by simp, Nat.zero_le _, ρ, h0, a1.eb, ⟨a1.z, hs, hd⟩, a1.ok⟩, ?_⟩
    rintro i m σ H ⟨rfl, hi, ρ', p, a'⟩
    by_cases hlt : i < ys.length
    · obtain ⟨y, hy⟩ : ∃ y, ys[i]? = some y := ⟨_, List.getElem?_eq_getElem hlt⟩
      refine .inr ⟨⟨ys, y, a'.z.2.1, hy⟩, lf K B S (fun H => Z H ∧ SqT K H b ys ∧ DpAll K H ys (xs.map enc)) (P (i + 1)), fun σ2 H2 q => ⟨ys.length - (i + 1), by omega, rfl, hlt, q⟩, fun x H2 yl => ?_⟩
      obtain ⟨T, y', rfl, hT, rfl, hyy⟩ := yl
      have hy' := hyy ys a'.z.2.1
      rw [hy] at hy'; cases hy'
      obtain ⟨d, hd', hyd⟩ := dps_get a'.z.2.2 hy
      rw [List.getElem?_map] at hd'
      cases hxi : xs[i]? with
      | none => rw [hxi] at hd'; simp at hd'
      | some c =>
        rw [hxi] at hd'
        obtain rfl : enc c = d := by simpa using hd'
        have a2 := a'.ex (Evl.Ex.new (o := .tup [.int (i : Nat), y]) hT)
        refine ⟨T, [.int (i : Nat), y], rfl, SqT.of upd_same, rfl, _, _, rfl, _, _, rfl, rfl, ?_⟩
        exact hb _ (fun H z => z.1) i c ρ' hxi p _ _ ((a2.set (i := i0) (sd rfl (.int _))).set (i := j0) (sd (hx c (List.mem_of_getElem? hxi)) (dp_ex (Evl.Ex.new hT) _ _ hyd)))
    · have ei : i = ys.length := by omega
      subst ei
      refine .inl ⟨⟨ys, a'.z.2.1, rfl⟩, ?_⟩
      rw [hyl] at p
      exact k ρ' p _ _ ⟨a'.eb, a'.z.1, a'.ok⟩
/-- for i, x in enumerate(row), row a slot's list that is fixed -/
theorem q_forEB {α : Type} {xs : List α} {enc : α → PyData} {tb : TS} {i0 j0 n0 : Nat} (h : ρ[n0]? = some (.d (.list (xs.map enc)))) (hx : ∀ a ∈ xs, noL (enc a) = true) (P : Nat → List Sl → Prop) (h0 : P 0 ρ)
    (hb : ∀ (i : Nat) a ρ', xs[i]? = some a → P i ρ' → TrR K B S Z tb ((ρ'.set i0 (.d (.int (i : Int)))).set j0 (.d (enc a))) (inLoop K B S Z (P (i + 1)) D tz))
    (k : ∀ ρ', P xs.length ρ' → TrR K B S Z tz ρ' D) : TrR K B S Z (tSeq (tFor (iEnum K (tCons (tVar n0) tNil)) (gTup K 2 (gCons (gName i0) (gCons (gName j0) gNil))) tb) tz) ρ D := fun σ H a => by
  obtain ⟨v, e1, h1⟩ := a.ok.b h (by simp [noL])
  obtain ⟨b, ys, rfl, hs, hd⟩ := dp_lst h1
  have hyl : ys.length = xs.length := by rw [dps_len hd, List.length_map]
  refine ⟨_, e1, b, ys, rfl, Evl.ex_l a.eb hs, fun i m σ H => m = ys.length - i ∧ i ≤ ys.length ∧ lf K B S Z (P i) σ H, ⟨ys.length, by simp, Nat.zero_le _, ρ, h0, a⟩, ?_⟩
  rintro i m σ H ⟨rfl, hi, ρ', p, a'⟩
  have hs' := Evl.ex_l a'.eb hs
  by_cases hlt : i < ys.length
  · obtain ⟨y, hy⟩ : ∃ y, ys[i]? = some y := ⟨_, List.getElem?_eq_getElem hlt⟩
    refine .inr ⟨⟨ys, y, hs', hy⟩, lf K B S Z (P (i + 1)), fun σ2 H2 q => ⟨ys.length - (i + 1), by omega, rfl, hlt, q⟩, fun x H2 yl => ?_⟩
    obtain ⟨T, y', rfl, hT, rfl, hyy⟩ := yl
    have hy' := hyy ys hs'
    rw [hy] at hy'; cases hy'
    obtain ⟨d, hd', hyd⟩ := dps_get hd hy
    rw [List.getElem?_map] at hd'
    cases hxi : xs[i]? with
    | none => rw [hxi] at hd'; simp at hd'
    | some c =>
      rw [hxi] at hd'
      obtain rfl : enc c = d := by simpa using hd'
      have a2 := a'.ex (Evl.Ex.new (o := .tup [.int (i : Nat), y]) hT)
      refine ⟨T, [.int (i : Nat), y], rfl, SqT.of upd_same, rfl, _, _, rfl, _, _, rfl, rfl, ?_⟩
      exact hb i c ρ' hxi p _ _ ((a2.set (i := i0) (sd rfl (.int _))).set (i := j0) (sd (hx c (List.mem_of_getElem? hxi)) (dp_ex a2.eb _ _ hyd)))
  · have ei : i = ys.length := by omega
    subst ei
    refine .inl ⟨⟨ys, hs', Nat.le_refl _⟩, ?_⟩
    rw [hyl] at p
    exact k ρ' p _ _ a'
end
end Fk
/-! the order of lots; sorting as insertion -/
namespace Fk
open PySem L2
/-! ### insertion -/
section
variable {α : Type} (r : α → α → Bool)
def ins (x : α) : List α → List α
  | [] => [x]
  | y :: l => if r x y = true then x :: y :: l else y :: ins x l
def isort : List α → List α
  | [] => []
  | x :: l => ins r x (isort l)
theorem ins_perm (x : α) : ∀ l : List α, (ins r x l).Perm (x :: l)
  | [] => .refl _
  | y :: l => by
    unfold ins
    split
    · exact .refl _
    · exact ((ins_perm x l).cons y).trans (.swap x y l)
theorem isort_perm : ∀ l : List α, (isort r l).Perm l
  | [] => .refl _
  | x :: l => (ins_perm r x _).trans ((isort_perm l).cons x)
variable {r}
theorem ins_sorted (tr : ∀ a b c, r a b = true → r b c = true → r a c = true) (tot : ∀ a b, r a b = true ∨ r b a = true) (x : α) : ∀ {l : List α}, l.Pairwise (fun a b => r a b = true) → (ins r x l).Pairwise (fun a b => r a b = true)
  | [], _ => by simp [ins]
  | y :: l, h => by
    unfold ins
    rw [List.pairwise_cons] at h
    split
    · rename_i hxy
      rw [List.pairwise_cons]
      refine ⟨fun z hz => ?_, List.pairwise_cons.mpr h⟩
      rcases List.mem_cons.mp hz with e | hz
      · rw [e]; exact hxy
      · exact tr _ _ _ hxy (h.1 z hz)
    · rename_i hxy
      rw [List.pairwise_cons]
      refine ⟨fun z hz => ?_, ins_sorted tr tot x h.2⟩
      rcases List.mem_cons.mp ((ins_perm r x l).mem_iff.mp hz) with e | hz
      · rw [e]; exact (tot y x).resolve_right hxy
      · exact h.1 z hz
theorem isort_sorted (tr : ∀ a b c, r a b = true → r b c = true → r a c = true) (tot : ∀ a b, r a b = true ∨ r b a = true) : ∀ l : List α, (isort r l).Pairwise (fun a b => r a b = true)
  | [] => .nil
  | x :: l => ins_sorted tr tot x (isort_sorted tr tot l)
theorem sorted_is {as bs : List α} (anti : ∀ a ∈ as, ∀ b ∈ as, r a b = true → r b a = true → a = b) (p : as.Perm bs) (h1 : as.Pairwise (fun a b => r a b = true)) (h2 : bs.Pairwise (fun a b => r a b = true)) : as = bs :=
  List.Perm.eq_of_pairwise (fun a b ha hb x y => anti a ha b (p.mem_iff.mpr hb) x y) h1 h2 p
theorem msort_is (tr : ∀ a b c, r a b = true → r b c = true → r a c = true) (tot : ∀ a b, r a b = true ∨ r b a = true) (l : List α) (anti : ∀ a ∈ l, ∀ b ∈ l, r a b = true → r b a = true → a = b) : l.mergeSort r = isort r l := by
  refine sorted_is (r := r) (fun a ha b hb => anti a (List.mem_mergeSort.mp ha) b (List.mem_mergeSort.mp hb)) ((List.mergeSort_perm l r).trans (isort_perm r l).symm) ?_ (isort_sorted tr tot l)
  exact List.pairwise_mergeSort tr (fun a b => by rcases tot a b with h | h <;> simp [h]) l
/-- the same whatever was sorted -/
theorem isort_eq (tr : ∀ a b c, r a b = true → r b c = true → r a c = true) (tot : ∀ a b, r a b = true ∨ r b a = true) {l m : List α} (p : l.Perm m) (anti : ∀ a ∈ l, ∀ b ∈ l, r a b = true → r b a = true → a = b) : isort r l = isort r m :=
  sorted_is (r := r) (fun a ha b hb => anti a ((isort_perm r l).mem_iff.mp ha) b ((isort_perm r l).mem_iff.mp hb)) (((isort_perm r l).trans p).trans (isort_perm r m).symm) (isort_sorted tr tot l) (isort_sorted tr tot m)
theorem isort_id (anti : ∀ a b : α, r a b = true → r b a = true → a = b) (tr : ∀ a b c, r a b = true → r b c = true → r a c = true) (tot : ∀ a b, r a b = true ∨ r b a = true) {l : List α} (h : l.Pairwise (fun a b => r a b = true)) : isort r l = l :=
  sorted_is (r := r) (fun a _ b _ => anti a b) (isort_perm r l) (isort_sorted tr tot l) h
end
/-! ### without repeats -/
def dstep {α : Type} [DecidableEq α] (acc : List α) (x : α) : List α := if x ∈ acc then acc else acc ++ [x]
def dedup {α : Type} [DecidableEq α] (l : List α) : List α := l.foldl dstep []
theorem dedup_spec {α : Type} [DecidableEq α] (l : List α) : (dedup l).Nodup ∧ ∀ x, x ∈ dedup l ↔ x ∈ l := by
  have gen : ∀ (l acc : List α), acc.Nodup → (l.foldl dstep acc).Nodup ∧ ∀ x, x ∈ l.foldl dstep acc ↔ x ∈ acc ∨ x ∈ l := by
    intro l
    induction l with
    | nil => intro acc h; exact ⟨h, fun x => by simp⟩
    | cons y l ih =>
      intro acc h
      rw [List.foldl_cons]
      by_cases hy : y ∈ acc
      · rw [show dstep acc y = acc from if_pos hy]
        obtain ⟨h1, h2⟩ := ih acc h
        refine ⟨h1, fun x => ?_⟩
        rw [h2, List.mem_cons]
        constructor
        · rintro (q | q)
          · exact .inl q
          · exact .inr (.inr q)
        · rintro (q | rfl | q)
          · exact .inl q
          · exact .inl hy
          · exact .inr q
      · rw [show dstep acc y = acc ++ [y] from if_neg hy]
        obtain ⟨h1, h2⟩ := ih (acc ++ [y]) (by
          rw [List.nodup_append]
          refine ⟨h, by simp, fun a ha b hb => ?_⟩
          rw [List.mem_singleton.mp hb]
          intro e; exact hy (e ▸ ha))
        refine ⟨h1, fun x => ?_⟩
        rw [h2, List.mem_append, List.mem_singleton, List.mem_cons, or_assoc]
  obtain ⟨h1, h2⟩ := gen l [] .nil
  exact ⟨h1, fun x => (h2 x).trans (by simp)⟩
/-! ### lots in order -/
def lexLtN : List Nat → List Nat → Bool
  | [], [] => false
  | [], _ :: _ => true
  | _ :: _, [] => false
  | x :: xs, y :: ys => if x = y then lexLtN xs ys else decide (x < y)
def rankLt (a b : Lot) : Bool := if a.length = b.length then lexLtN a b else decide (a.length < b.length)
def rankLe (a b : Lot) : Bool := !rankLt b a
theorem lexN_irr : ∀ a, lexLtN a a = false
  | [] => rfl
  | x :: a => by simp [lexLtN, lexN_irr a]
theorem lexN_tot : ∀ a b, lexLtN a b = false → lexLtN b a = false → a = b
  | [], [], _, _ => rfl
  | [], _ :: _, h, _ => by simp [lexLtN] at h
  | _ :: _, [], _, h => by simp [lexLtN] at h
  | x :: a, y :: b, h1, h2 => by
    unfold lexLtN at h1 h2
    by_cases e : x = y
    · subst e
      rw [if_pos rfl] at h1 h2
      rw [lexN_tot a b h1 h2]
    · rw [if_neg e] at h1
      rw [if_neg (Ne.symm e)] at h2
      simp at h1 h2
      omega
theorem lexN_tr : ∀ a b c, lexLtN b a = false → lexLtN c b = false → lexLtN c a = false
  | [], [], [], _, _ => rfl
  | [], [], _ :: _, _, _ => rfl
  | [], _ :: _, [], _, h => by simp [lexLtN] at h
  | [], _ :: _, _ :: _, h, _ => rfl
  | _ :: _, [], _, h, _ => by simp [lexLtN] at h
  | _ :: _, _ :: _, [], _, h => by simp [lexLtN] at h
  | x :: a, y :: b, z :: c, h1, h2 => by
    unfold lexLtN at h1 h2 ⊢
    by_cases e1 : y = x
    · subst e1
      rw [if_pos rfl] at h1
      by_cases e2 : z = y
      · subst e2
        rw [if_pos rfl] at h2
        rw [if_pos rfl]
        exact lexN_tr a b c h1 h2
      · rw [if_neg e2] at h2 ⊢
        exact h2
    · rw [if_neg e1] at h1
      by_cases e2 : z = y
      · subst e2
        rw [if_neg e1]
        exact h1
      · rw [if_neg e2] at h2
        have h1 : ¬ y < x := by simpa using h1
        have h2 : ¬ z < y := by simpa using h2
        rw [if_neg (by omega)]
        simp
        omega
theorem rank_anti (a b : Lot) (h1 : rankLe a b = true) (h2 : rankLe b a = true) : a = b := by
  unfold rankLe at h1 h2
  have h1 : rankLt b a = false := by simpa using h1
  have h2 : rankLt a b = false := by simpa using h2
  unfold rankLt at h1 h2
  by_cases e : a.length = b.length
  · rw [if_pos e] at h2
    rw [if_pos e.symm] at h1
    exact lexN_tot a b h2 h1
  · rw [if_neg e] at h2
    rw [if_neg (Ne.symm e)] at h1
    simp at h1 h2
    omega
theorem rank_tr (a b c : Lot) (h1 : rankLe a b = true) (h2 : rankLe b c = true) : rankLe a c = true := by
  unfold rankLe at h1 h2 ⊢
  have h1 : rankLt b a = false := by simpa using h1
  have h2 : rankLt c b = false := by simpa using h2
  have : rankLt c a = false := by
    unfold rankLt at h1 h2 ⊢
    by_cases e1 : b.length = a.length
    · rw [if_pos e1] at h1
      by_cases e2 : c.length = b.length
      · rw [if_pos e2] at h2
        rw [if_pos (e2.trans e1)]
        exact lexN_tr a b c h1 h2
      · rw [if_neg e2] at h2
        rw [if_neg (by omega)]
        simp at h2 ⊢
        omega
    · rw [if_neg e1] at h1
      by_cases e2 : c.length = b.length
      · rw [if_neg (by omega)]
        simp at h1 ⊢
        omega
      · rw [if_neg e2] at h2
        have h1 : ¬ b.length < a.length := by simpa using h1
        have h2 : ¬ c.length < b.length := by simpa using h2
        rw [if_neg (by omega)]
        simp
        omega
  simp [this]
theorem rank_tot (a b : Lot) : rankLe a b = true ∨ rankLe b a = true := by
  unfold rankLe
  by_cases h : rankLt b a = true
  · right
    have : rankLt a b = false := by
      unfold rankLt at h ⊢
      by_cases e : a.length = b.length
      · rw [if_pos e.symm] at h
        rw [if_pos e]
        cases h2 : lexLtN a b with
        | false => rfl
        | true =>
          exfalso
          have gen : ∀ a b, lexLtN a b = true → lexLtN b a = true → False := by
            intro a
            induction a with
            | nil =>
              intro b h1 h2
              cases b with
              | nil => simp [lexLtN] at h1
              | cons => simp [lexLtN] at h2
            | cons x a ih =>
              intro b h1 h2
              cases b with
              | nil => simp [lexLtN] at h1
              | cons y b =>
                unfold lexLtN at h1 h2
                by_cases e : x = y
                · subst e
                  rw [if_pos rfl] at h1 h2
                  exact ih b h1 h2
                · rw [if_neg e] at h1
                  rw [if_neg (Ne.symm e)] at h2
                  simp at h1 h2
                  omega
          exact gen a b h2 h
      · rw [if_neg (Ne.symm e)] at h
        rw [if_neg e]
        simp at h ⊢
        omega
    simp [this]
  · left
    simpa using h
/-- lots in order, none twice -/
def ordL (l : List Lot) : List Lot := isort rankLe (dedup l)
def sortL (l : List Lot) : List Lot := isort rankLe l
theorem msortL (l : List Lot) : l.mergeSort rankLe = sortL l := msort_is rank_tr rank_tot l fun a _ b _ => rank_anti a b
theorem sortL_mem {l : List Lot} {x : Lot} : x ∈ sortL l ↔ x ∈ l := (isort_perm _ _).mem_iff
theorem ordL_mem {l : List Lot} {x : Lot} : x ∈ ordL l ↔ x ∈ l := ((isort_perm _ _).mem_iff).trans ((dedup_spec l).2 x)
theorem ordL_nodup (l : List Lot) : (ordL l).Nodup := (isort_perm _ _).nodup_iff.mpr (dedup_spec l).1
theorem sortL_sorted (l : List Lot) : (sortL l).Pairwise (fun a b => rankLe a b = true) := isort_sorted rank_tr rank_tot _
theorem ordL_sorted (l : List Lot) : (ordL l).Pairwise (fun a b => rankLe a b = true) := isort_sorted rank_tr rank_tot _
theorem sortL_id {l : List Lot} (h : l.Pairwise (fun a b => rankLe a b = true)) : sortL l = l := isort_id rank_anti rank_tr rank_tot h
theorem sorted_ext {a b : List Lot} (h1 : a.Pairwise (fun a b => rankLe a b = true)) (h2 : b.Pairwise (fun a b => rankLe a b = true)) (n1 : a.Nodup) (n2 : b.Nodup) (h : ∀ x, x ∈ a ↔ x ∈ b) : a = b :=
  sorted_is (r := rankLe) (fun a _ b _ => rank_anti a b) ((List.perm_ext_iff_of_nodup n1 n2).mpr h) h1 h2
/-! ### Python's order of the keys -/
def tk : List Nat → List (Int ⊕ List Nat)
  | [] => [.inl 0]
  | x :: l => .inl 1 :: .inl (x : Int) :: tk l
theorem toks_lot (l : Lot) : PySem.W.keyToks (eLot l) = tk l := by
  unfold eLot
  simp only [PySem.W.keyToks]
  induction l with
  | nil => rfl
  | cons x l ih =>
    rw [List.map_cons]
    simp only [PySem.W.keyToksAll, eI, PySem.W.keyToks, tk]
    rw [ih]; rfl
theorem lex_cons {p q : Int} {a b : List (Int ⊕ List Nat)} : PyProof.Rows.lexLt PyProof.Rows.itemOrd (.inl p :: a) (.inl q :: b) = if p = q then PyProof.Rows.lexLt PyProof.Rows.itemOrd a b else decide (p < q) := by
  by_cases h : p = q
  · subst h
    rw [if_pos rfl]
    exact PyProof.Rows.lex_self (O := PyProof.Rows.itemOrd) _ a b
  · rw [if_neg h]
    rw [PySem.W.lex_atom (fun z => h (Sum.inl.inj z)), PySem.W.lex_one]
    rfl
theorem lex_tk : ∀ a b : List Nat, PyProof.Rows.lexLt PyProof.Rows.itemOrd (tk a) (tk b) = lexLtN a b
  | [], [] => by simp only [tk]; rw [lex_cons, if_pos rfl]; rfl
  | [], y :: b => by simp only [tk]; rw [lex_cons, if_neg (by decide)]; rfl
  | x :: a, [] => by simp only [tk]; rw [lex_cons, if_neg (by decide)]; rfl
  | x :: a, y :: b => by
    simp only [tk]
    rw [lex_cons, if_pos rfl, lex_cons]
    unfold lexLtN
    by_cases h : x = y
    · subst h
      rw [if_pos rfl, if_pos rfl, lex_tk a b]
    · rw [if_neg (by omega), if_neg h]
      congr 1
      exact propext Int.ofNat_lt
theorem toks_key (l : Lot) : PySem.W.keyToks (eKey l) = .inl 1 :: .inl (l.length : Int) :: .inl 1 :: (tk l ++ [.inl 0]) := by
  unfold eKey
  simp only [PySem.W.keyToks, PySem.W.keyToksAll, eI, toks_lot]
  rfl
theorem lex_tk0 : ∀ a b : List Nat, PyProof.Rows.lexLt PyProof.Rows.itemOrd (tk a ++ [.inl 0]) (tk b ++ [.inl 0]) = lexLtN a b
  | [], [] => by simp only [tk, List.cons_append]; rw [lex_cons, if_pos rfl]; rfl
  | [], y :: b => by simp only [tk, List.cons_append]; rw [lex_cons, if_neg (by decide)]; rfl
  | x :: a, [] => by simp only [tk, List.cons_append]; rw [lex_cons, if_neg (by decide)]; rfl
  | x :: a, y :: b => by
    simp only [tk, List.cons_append]
    rw [lex_cons, if_pos rfl, lex_cons]
    unfold lexLtN
    by_cases h : x = y
    · subst h
      rw [if_pos rfl, if_pos rfl, lex_tk0 a b]
    · rw [if_neg (by omega), if_neg h]
      congr 1
      exact propext Int.ofNat_lt
theorem key_le {α : Type} {kf : PyData → PyData} {enc : α → PyData} {lf : α → Lot} {a b : α} (ha : kf (enc a) = eKey (lf a)) (hb : kf (enc b) = eKey (lf b)) : PySem.W.dataLe false kf (enc a) (enc b) = rankLe (lf a) (lf b) := by
  show (!PyProof.Rows.lexLt PyProof.Rows.itemOrd (PySem.W.keyToks (kf (enc b))) (PySem.W.keyToks (kf (enc a)))) = !rankLt (lf b) (lf a)
  rw [ha, hb, toks_key, toks_key, lex_cons, if_pos rfl, lex_cons]
  unfold rankLt
  congr 1
  by_cases h : (lf b).length = (lf a).length
  · rw [if_pos h, if_pos (by rw [h]), lex_cons, if_pos rfl, lex_tk0]
  · rw [if_neg h, if_neg (by omega)]
    congr 1
    exact propext Int.ofNat_lt
theorem alike_key : ∀ a b : Lot, PySem.W.alike (eKey a) (eKey b) = true := by
  have lots : ∀ a b : List Nat, PySem.W.alikeAll (a.map eI) (b.map eI) = true := by
    intro a
    induction a with
    | nil => intro b; simp [PySem.W.alikeAll]
    | cons x a ih =>
      intro b
      cases b with
      | nil => simp [PySem.W.alikeAll]
      | cons y b => simp [PySem.W.alikeAll, eI, PySem.W.alike, ih b]
  intro a b
  simp [eKey, PySem.W.alike, PySem.W.alikeAll, eI, eLot, lots]
theorem depth_key (l : Lot) : (eKey l).depth ≤ 40 := by
  have : ∀ l : List Nat, PyData.depthAll (l.map eI) ≤ 1 := by
    intro l
    induction l with
    | nil => simp [PyData.depthAll]
    | cons x l ih => simp [PyData.depthAll, eI, PyData.depth]; exact ih
  have h := this l
  simp [eKey, PyData.depth, PyData.depthAll, eI, eLot]
  omega
end Fk
/-! list(dict(..)): what is given, none twice -/
namespace Fk
open PySem PySem.Spec PyProof.Rows L2
theorem itDs_I : ∀ l : List Nat, itDs (l.map eI) = true
  | [] => rfl
  | _ :: l => by simp [itDs, itD, eI, itDs_I l]
theorem it_lot (l : Lot) : itD (eLot l) = true := by show itDs (l.map eI) = true; exact itDs_I l
theorem depth_keys : ∀ l : List Nat, NestedKey.depthAll (keyNs (l.map eI)) = 0
  | [] => rfl
  | _ :: l => by simp [keyNs, eI, keyN, NestedKey.depthAll, NestedKey.depth, depth_keys l]
theorem keyOk_lot (l : Lot) : keyOk (eLot l) = true := by
  have h1 : itD (eLot l) = true := it_lot l
  have h2 : (keyN (eLot l)).depth ≤ 8 := by
    have := depth_keys l
    simp [eLot, keyN, NestedKey.depth, this]
  unfold keyOk
  rw [h1, decide_eq_true h2]
  rfl
theorem eI_inj {a b : Nat} (h : eI a = eI b) : a = b := by
  unfold eI at h
  injection h with h
  exact Int.ofNat_inj.mp h
theorem map_eI_inj : ∀ {a b : List Nat}, a.map eI = b.map eI → a = b
  | [], [], _ => rfl
  | [], _ :: _, h => by simp at h
  | _ :: _, [], h => by simp at h
  | x :: a, y :: b, h => by
    rw [List.map_cons, List.map_cons] at h
    injection h with h1 h2
    rw [eI_inj h1, map_eI_inj h2]
theorem eLot_inj {a b : Lot} (h : eLot a = eLot b) : a = b := by
  unfold eLot at h
  injection h with h
  exact map_eI_inj h
theorem key_lot_inj {a b : Lot} (h : keyN (eLot a) = keyN (eLot b)) : a = b := eLot_inj (keyN_inj _ _ (it_lot a) (it_lot b) h)
theorem atD_lot {acc : List Lot} {x : Lot} {v : PyData} : (atD (acc.map fun y => (eLot y, v)) (eLot x)).isSome = decide (x ∈ acc) := by
  induction acc with
  | nil => rfl
  | cons y acc ih =>
    unfold atD at ih ⊢
    rw [List.map_cons, List.find?_cons]
    by_cases e : y = x
    · subst e; simp
    · have : decide (keyN (eLot y) = keyN (eLot x)) = false := decide_eq_false fun z => e (key_lot_inj z)
      rw [this]
      simp only [List.mem_cons]
      rw [ih]
      congr 1
      exact propext ⟨.inr, fun h => h.resolve_left (Ne.symm e)⟩
theorem putD_lot {acc : List Lot} {x : Lot} {v : PyData} : putD (acc.map fun y => (eLot y, v)) (eLot x) v = (dstep acc x).map fun y => (eLot y, v) := by
  unfold putD dstep
  rw [atD_lot]
  by_cases h : x ∈ acc
  · rw [if_pos (decide_eq_true h), if_pos h, List.map_map]
    refine List.map_congr_left fun y _ => ?_
    show (if keyN (eLot y) = keyN (eLot x) then (eLot y, v) else (eLot y, v)) = _
    split <;> rfl
  · rw [if_neg (by simpa using h), if_neg h, List.map_append]
    rfl
theorem putAll_lots (ls : List Lot) (v : PyData) : putAll [] (ls.map fun x => (eLot x, v)) = (dedup ls).map fun x => (eLot x, v) := by
  have gen : ∀ (ls acc : List Lot), putAll (acc.map fun x => (eLot x, v)) (ls.map fun x => (eLot x, v)) = (ls.foldl dstep acc).map fun x => (eLot x, v) := by
    intro ls
    induction ls with
    | nil => intro acc; rfl
    | cons x ls ih =>
      intro acc
      show putAll (putD (acc.map fun x => (eLot x, v)) (eLot x) v) (ls.map fun x => (eLot x, v)) = _
      rw [putD_lot, ih, List.foldl_cons]
  exact gen ls []
section
variable {K : PySem.W.Frag} {B : Hp} {P : Program} {w : World} {ρ : List Sl} {te : TE}
theorem el_listDict {ls : List Lot} (h : EvD K B te ρ (.list (ls.map fun x => .tuple [eLot x, .bool true]))) : EvL K B (tCB (rListN P w) (tCons (tCB (rDictN K P w) (tCons te tNil)) tNil)) ρ ((dedup ls).map eLot) := by
  have h1 := el_listN (ek_pairs (P := P) (w := w) (l := ls.map fun x => (eLot x, PyData.bool true)) (by rw [List.map_map]; exact h) (fun e he => by
    obtain ⟨x, _, rfl⟩ := List.mem_map.mp he
    exact ⟨keyOk_lot x, rfl⟩))
  rw [putAll_lots, List.map_map] at h1
  exact h1
/-! ints -/
def rDictI (K : PySem.W.Frag) : List V → Hp → VK → Prop := fun xs H Q => ∃ (a : Addr) (ps : List Addr) (kvs : List (Key × V)), xs = [.ref a] ∧ SqL K H a (ps.map V.ref) ∧ Paired (fun p kv => SqT K H p [kV kv.1, kv.2]) ps kvs ∧ ∀ p, H p = none → Q (.ref p) (L2.upd H p (.dK (mergeK [] kvs)))
def rListI : List V → Hp → VK → Prop := fun xs H Q => ∃ (a : Addr) (kvs : List (Key × V)), xs = [.ref a] ∧ Rd H a (.dK kvs) ∧ ∀ p, H p = none → Q (.ref p) (L2.upd H p (.lst (kvs.map fun kv => kV kv.1)))
theorem cr_dictI {X : Cx} (hc : X.calm = true) : CallR X (.type "dict") (rDictI X.K) := call_dictP hc
theorem cr_listI {X : Cx} (hc : X.calm = true) : CallR X (.type "list") rListI := call_listD hc
def kvB (b : Nat) : Key × V := (.inl (b : Int), V.bl true)
def iN (b : Nat) : Int := b
theorem merge_ints (bs : List Nat) : mergeK [] (bs.map kvB) = (dedup bs).map kvB := by
  have one : ∀ (acc : List Nat) (x : Nat), putK (acc.map kvB) (.inl (x : Int)) (.bl true) = (dstep acc x).map kvB := by
    intro acc x
    have e : ((acc.map kvB).any fun kv => decide (kv.1 = .inl (x : Int))) = decide (x ∈ acc) := by
      rw [List.any_map]
      induction acc with
      | nil => rfl
      | cons y acc ih =>
        rw [List.any_cons, ih]
        by_cases h : y = x
        · subst h; simp [kvB]
        · have : decide ((Sum.inl (y : Int) : Key) = .inl (x : Int)) = false := decide_eq_false fun z => h (by have := Sum.inl.inj z; omega)
          rw [show ((fun kv : Key × V => decide (kv.1 = .inl (x : Int))) ∘ kvB) y = false from this]
          simp only [Bool.false_or, List.mem_cons]
          congr 1
          exact propext ⟨.inr, fun q => q.resolve_left (Ne.symm h)⟩
    unfold putK dstep
    rw [e]
    by_cases h : x ∈ acc
    · rw [if_pos (decide_eq_true h), if_pos h, List.map_map]
      refine List.map_congr_left fun y _ => ?_
      show (if (Sum.inl (y : Int) : Key) = .inl (x : Int) then ((Sum.inl (y : Int) : Key), V.bl true) else kvB y) = kvB y
      split <;> rfl
    · rw [if_neg (by simpa using h), if_neg h, List.map_append]
      rfl
  have gen : ∀ (bs acc : List Nat), mergeK (acc.map kvB) (bs.map kvB) = (bs.foldl dstep acc).map kvB := by
    intro bs
    induction bs with
    | nil => intro acc; rfl
    | cons x bs ih =>
      intro acc
      show mergeK (putK (acc.map kvB) (.inl (x : Int)) (.bl true)) (bs.map kvB) = _
      rw [one, ih, List.foldl_cons]
  exact gen bs []
theorem pairsI {H : Hp} : ∀ {bs : List Nat} {vs : List V}, DpAll K H vs (bs.map fun b => .tuple [eI b, .bool true]) → ∃ ps : List Addr, vs = ps.map V.ref ∧ Paired (fun p (kv : Key × V) => SqT K H p [kV kv.1, kv.2]) ps (bs.map kvB)
  | [], _, h => by cases h; exact ⟨[], rfl, .nil⟩
  | b :: bs, _, h => by
    rw [List.map_cons] at h
    cases h with
    | cons h1 h2 =>
      obtain ⟨ps, rfl, hp⟩ := pairsI h2
      obtain ⟨a, xs, rfl, hs, ha⟩ := dp_tup h1
      obtain ⟨v, w, rfl, hv, hw⟩ := two_dp ha
      obtain rfl := dp_int hv
      obtain rfl := dp_bl hw
      exact ⟨a :: ps, rfl, .cons hs hp⟩
theorem el_listDictI {bs : List Nat} (h : EvD K B te ρ (.list (bs.map fun b => .tuple [eI b, .bool true]))) : EvL K B (tCB rListI (tCons (tCB (rDictI K) (tCons te tNil)) tNil)) ρ ((dedup bs).map eI) := fun σ H eb ok Q q => h σ H eb ok _ fun v H1 e1 h1 => by
  obtain ⟨a, vs, rfl, hs, ha⟩ := dp_lst h1
  obtain ⟨ps, rfl, hp⟩ := pairsI ha
  refine ⟨a, ps, _, rfl, hs, hp, fun p hn => ?_⟩
  rw [merge_ints]
  have e2 : Ex H1 (L2.upd H1 p (.dK ((dedup bs).map kvB))) := Evl.Ex.new hn
  refine ⟨p, _, rfl, .inl upd_same, fun l hl => ?_⟩
  have e : ((dedup bs).map kvB).map (fun kv => kV kv.1) = ((dedup bs).map iN).map V.int := by
    rw [List.map_map, List.map_map]; rfl
  rw [e]
  refine q l _ _ ((e1.tr e2).tr (Evl.Ex.new hl)) (Evl.fresh_back (e1.tr e2) hl) upd_same ?_
  have := dps_of_ints (K := K) (H := L2.upd (L2.upd H1 p (.dK ((dedup bs).map kvB))) l (.lst (((dedup bs).map iN).map V.int))) ((dedup bs).map iN)
  have e3 : (dedup bs).map eI = ((dedup bs).map iN).map PyData.int := by rw [List.map_map]; rfl
  rw [e3]
  exact this
end
end Fk
/-! rules with the written part named (in a comprehension's block) -/
namespace Fk
open PySem PySem.Spec PyProof.Rows L2
section
variable {X : Cx} (K : PySem.W.Frag) (P : Program) (w : World)
theorem op_eqk (hK : X.K = K) (hu : X.A.units + 64 < cLine) : OpR X (compareOp .Eq) (rEqD K) := hK ▸ op_eqD hu
theorem op_nek (hK : X.K = K) (hu : X.A.units + 64 < cLine) : OpR X (compareOp .NotEq) (rNeD K) := hK ▸ op_neD hu
theorem op_ink (hK : X.K = K) (hu : X.A.units + 65 < cLine) : OpR X (compareOp .In) (rInA K) := hK ▸ op_inA hu
theorem op_nik (hK : X.K = K) (hu : X.A.units + 65 < cLine) : OpR X (compareOp .NotIn) (rNiA K) := hK ▸ op_niA hu
theorem op_catk (hK : X.K = K) : OpR X (binaryOp .Add) (rCatA K) := hK ▸ op_catA
theorem ix_tk (hK : X.K = K) : IxR X (rIxT K) := hK ▸ ix_tup
theorem ix_lk (hK : X.K = K) : IxR X (rIxL K) := hK ▸ ix_list
theorem sl_tk (hK : X.K = K) : SlR X (rSlA K) := hK ▸ sl_tupA
theorem sl_lk (hK : X.K = K) : SlR X (rSlL K) := hK ▸ sl_list
theorem cr_lenk (hK : X.K = K) : CallR X (.builtin "len") (Evl.rLenS K) := hK ▸ cr_len
theorem cr_tupk (hK : X.K = K) : CallR X (.type "tuple") (rTupS K) := hK ▸ cr_tup
theorem cr_listk (hK : X.K = K) : CallR X (.type "list") (Evl.rListS K) := hK ▸ cr_list
theorem cr_maxk (hK : X.K = K) (hc : X.calm = true) : CallR X (.builtin "max") (rMax K) := hK ▸ cr_max hc
theorem cr_sumk (hK : X.K = K) (hc : X.calm = true) : CallR X (.builtin "sum") (rSum K) := hK ▸ cr_sum hc
theorem cr_allk (hK : X.K = K) (hc : X.calm = true) : CallR X (.builtin "all") (rAll K) := hK ▸ cr_all hc
theorem cr_sortIk (hK : X.K = K) : CallR X (.builtin "sorted") (rSortedI K) := hK ▸ cr_sortedI
theorem cr_sortTk (hK : X.K = K) : CallR X (.builtin "sorted") (rSortTI K) := hK ▸ cr_sortedTI
theorem cr_reprk {k : Nat} (hK : X.K = K) (hg : X.A.guards = some []) (hr : Room k X.A) : CallR X (.builtin "repr") (rRepr K) := hK ▸ cr_repr hg hr
theorem cr_isik (hK : X.K = K) : CallR X (.builtin "isinstance") (rIsi K) := hK ▸ call_isi
variable {tg e o i : Expr} {te td ti : TE} {pos : Pos}
theorem pi_tk (hK : X.K = K) (h : PE X e te) : PI X tg e (iTup K te) := hK ▸ pi_tup h
theorem pi_lk (hK : X.K = K) (h : PE X e te) : PI X tg e (iList K te) := hK ▸ pi_list h
theorem pe_ngetk (hK : X.K = K) (hP : X.prog = P) (hw : X.w = w) (hu : X.A.units + 64 < cLine) (ho : PE X o td) (hi : PE X i ti) (hs : NoSl i) : PE X (.Subscript o i pos) (tNGet K P w td ti) := by
  subst hK hP hw
  exact pe_nget hu ho hi hs
end
section
variable {K : PySem.W.Frag} {B : Hp} {ρ : List Sl} {te : TE} {ds : List PyData}
theorem ty_tup {H : Hp} {a : Addr} {xs : List V} (h : SqT K H a xs) : TyX K H (.ref a) (.type "tuple") := by
  rcases h with (h | ⟨o, h⟩) | ⟨o, _, _, h, hc, _⟩
  · exact .base (.tup h)
  · exact .fTuple h
  · exact .kTuple h hc
theorem ed_isT (h : EvD K B te ρ (.tuple ds)) : EvD K B (tCB (rIsi K) (tCons te (tCons (tC (.ty "tuple")) tNil))) ρ (.bool true) := fun σ H eb ok Q q => h σ H eb ok _ fun v H1 e1 h1 => by
  obtain ⟨a, xs, rfl, hs, _⟩ := dp_tup h1
  exact ⟨_, _, _, _, true, rfl, .ty "tuple", ty_tup hs, kit_ty (by decide +kernel), q _ H1 e1 (.bl true)⟩
theorem ed_isI {i : Int} (h : EvD K B te ρ (.int i)) : EvD K B (tCB (rIsi K) (tCons te (tCons (tC (.ty "int")) tNil))) ρ (.bool true) := fun σ H eb ok Q q => h σ H eb ok _ fun v H1 e1 h1 => by
  obtain rfl := dp_int h1
  exact ⟨_, _, _, _, true, rfl, .ty "int", .base (.int i), kit_ty (by decide +kernel), q _ H1 e1 (.bl true)⟩
theorem ed_isB {i : Int} (h : EvD K B te ρ (.int i)) : EvD K B (tCB (rIsi K) (tCons te (tCons (tC (.ty "bool")) tNil))) ρ (.bool false) := fun σ H eb ok Q q => h σ H eb ok _ fun v H1 e1 h1 => by
  obtain rfl := dp_int h1
  exact ⟨_, _, _, _, false, rfl, .ty "bool", .base (.int i), kit_ty (by decide +kernel), q _ H1 e1 (.bl false)⟩
end
end Fk
/-! a def of two parameters called by keywords alone, the second one first -/
namespace Fk
open PySem PySem.Spec PyProof.Rows L2
structure OkX (P : Program) (w : World) (K : PySem.W.Frag) (mg : Str → Option Value) (base : Heap) (k : Nat) (x : Str) (p1 p2 : Str) (sp : Sp) : Prop where
  ex : ∃ f fd, FnOkG P w K mg base k f fd [p1, p2] sp ∧ mg x = some (.ref f) ∧ PySem.W.keepIn K (.ref f) = true ∧ L2.Binds K fd [p1, p2] [] ∧
    ∀ (s : Shared) (u v : Value), K.In s.heap → BindsTo s fd ⟨[], [(p2, u), (p1, v)]⟩ [(p1, v), (p2, u)]
section
variable {P : Program} {w : World} {K : PySem.W.Frag} {mg : Str → Option Value} {base : Heap} {k : Nat} {x : Str} {st : Stmt} {N : List Str} {p1 p2 : Str} {sp : Sp}
theorem OkX.ok (h : OkX P w K mg base k x p1 p2 sp) : Ok P w K mg base k x [p1, p2] sp := by
  obtain ⟨f, fd, h1, h2, h3, h4, _⟩ := h.ex
  exact ⟨f, fd, h1, h2, h3, h4⟩
theorem mkGX (F : Here K mg x st) (S : FnScope N [p1, p2] (defScope st)) (hb : BindsBy x st [p1, p2]) (len : ∀ vs H Q E, sp vs H Q E → vs.length = [p1, p2].length)
    (hbody : ∀ (f : Addr) (cdv : Value) (A : Around) (outer : List Env) (s : Shared) (H : Hp) (E : XK), A.guards = some [] → Room k (A.deeper (envOfC x (defScope st) s.heap.objs.size f cdv)) →
      ∃ t, PSs (cxOf CX0 P w K mg base N x (defScope st) f cdv A outer s H E).nox (defBody st) t ∧ ∀ (vs : List V) (H : Hp) (Q : VK) (E : XK), sp vs H Q E → t { nx := fun _ H' => Q .non H', rt := Q } (L2.start N vs) H)
    (hk : ∀ (kV doc pm : Value) (an : Option Addr) (cdv ct : Value) (u v : Value), bindArgs (PySem.W.fnOf x x (defArgs st) (defBody st) (defScope st) .none kV doc pm an cdv ct) ⟨[], [(p2, u), (p1, v)]⟩ = pure [(p1, v), (p2, u)]) : OkX P w K mg base (k + 1) x p1 p2 sp := by
  obtain ⟨f, fd, F, g⟩ := F
  refine ⟨f, fd, okG (funOf F) S len fun cdv A outer s H vs Q E hg hr hsp => ?_, g, F.kp, (funOf F).binds hb, fun s u v _ => ?_⟩
  · obtain ⟨t, h1, h2⟩ := hbody f cdv A outer s H E hg hr
    exact ⟨t, h1, h2 vs H Q E hsp⟩
  · obtain ⟨oc, od, kV, doc, pm, an, cdv, ct, osl, rfl, lk, hcd⟩ := (funOf F).ex
    exact .of_eq (hk kV doc pm an cdv ct u v)
end
def tCallR (sp : Sp) (E : XK) (t : TA) : TE := fun σ H Q => t σ H fun vs H1 => sp vs.reverse H1 Q E
section
variable {X : Cx} {k : Nat} {p1 p2 : Str} {sp : Sp} {x : Str} {p pos k1 k2 : Pos} {e1 e2 : Expr} {t : TA}
theorem pe_callX (F : OkX X.prog X.w X.K X.mg X.base k x p1 p2 sp) (hg : X.A.guards = some []) (hr : Room k X.A) (hgl : Gl X x) (ha : PK X [⟨some p2, e1, k1⟩, ⟨some p1, e2, k2⟩] t)
    (hall : (backToKw pos (keywordEach [⟨some p2, e1, k1⟩, ⟨some p1, e2, k2⟩] X.env)).all (·.1.isSome) = true := by rfl) (hks : (backToKw pos (keywordEach [⟨some p2, e1, k1⟩, ⟨some p1, e2, k2⟩] X.env)).filterMap (·.1) = [p2, p1] := by rfl)
    (hd : (x == ("__debug__" : Str)) = false := by decide) (hpl : ((backTo pos (starEach [] X.env)).any (·.1) || (backToKw pos (keywordEach [⟨some p2, e1, k1⟩, ⟨some p1, e2, k2⟩] X.env)).any (·.1.isNone)) = false := by rfl) :
    PE X (.Call (.Name x p) [] [⟨some p2, e1, k1⟩, ⟨some p1, e2, k2⟩] pos) (tCallR sp E0 t) := by
  obtain ⟨f, fd, F, hm, hk, _, hb⟩ := F.ex
  refine ⟨fun pins s σ H Q I h => ?_⟩
  refine wpAny_Call_Name_kw (ld_glob I hgl hm ?_ hd)
  refine PySem.W.callWith_KW0 (h₀ := X.base) I.ok.mod.kin hk hall (thn (ha.run pos pins s σ H _ I h) fun ws s2 ⟨zs, H2, I2, rz, q2⟩ => ⟨I2.kIn, ?_⟩) hpl
  rw [hks]
  have hl := F.len _ _ _ _ q2
  rw [List.length_reverse] at hl
  match zs, hl, rz with
  | [z1, z2], _, rz =>
    obtain ⟨u, v, rfl, r1, r2⟩ := vals2' rz
    refine wpAny_call (codeAny_mono (F.run X.A X.stack s2 H2 ⟨[], [(p2, u), (p1, v)]⟩ [v, u] [z2, z1] Q E0 hg hr I2.env0 (hb s2 u v I2.kIn) (.cons r2 (.cons r1 .nil)) q2) fun r s' hq => ?_)
    cases r with
    | error e => exact (show False from hq).elim
    | ok fl =>
      cases fl with
      | ret u => exact I2.after hq
      | next => exact (show False from hq).elim
      | brk => exact (show False from hq).elim
      | cont => exact (show False from hq).elim
end
theorem ed_callR {K : PySem.W.Frag} {B : Hp} {ρ : List Sl} {R : List PyData → PyData → Prop} {ta : TA} {E : XK} {a b d : PyData} (h : EvA K B ta ρ [a, b]) (hR : R [b, a] d) : EvD K B (tCallR (spD K R) E ta) ρ d := fun σ H eb ok Q q => h σ H eb ok _ fun vs H1 e1 h1 => by
  obtain ⟨v, w, rfl, hv, hw⟩ := two_dp h1
  exact ⟨[b, a], d, .cons hw (.cons hv .nil), hR, fun v H2 e2 h2 => q v H2 (e1.tr e2) h2⟩
end Fk
/-! dicts from ints to ints -/
namespace Fk
open PySem PySem.Spec PyProof.Rows L2
abbrev NN := List (Nat × Nat)
def kvN (e : Nat × Nat) : Key × V := (.inl (e.1 : Int), .int (e.2 : Int))
def kvI (es : NN) : List (Key × V) := es.map kvN
def lookN (es : NN) (x : Nat) : Option Nat := (es.find? fun e => decide (e.1 = x)).map (·.2)
def putN (es : NN) (x t : Nat) : NN := if (lookN es x).isSome = true then es.map (fun e => if e.1 = x then (e.1, t) else e) else es ++ [(x, t)]
theorem key_eq (a b : Nat) : ((Sum.inl (a : Int) : Key) = .inl (b : Int)) ↔ a = b := ⟨fun h => by have := Sum.inl.inj h; omega, fun h => by rw [h]⟩
theorem valV_kvI (es : NN) (x : Nat) : valV (kvI es) (.inl (x : Int)) = (lookN es x).map fun s : Nat => V.int (s : Int) := by
  induction es with
  | nil => rfl
  | cons e es ih =>
    unfold lookN at ih ⊢
    by_cases h : e.1 = x
    · have : valV (kvI (e :: es)) (.inl (x : Int)) = some (kvN e).2 := valV_pos ((key_eq _ _).mpr h)
      rw [this, List.find?_cons]
      simp [h, kvN]
    · have : valV (kvI (e :: es)) (.inl (x : Int)) = valV (kvI es) (.inl (x : Int)) := valV_neg fun z => h ((key_eq _ _).mp z)
      rw [this, ih, List.find?_cons]
      simp [h]
theorem putK_kvI (es : NN) (x t : Nat) : putK (kvI es) (.inl (x : Int)) (.int (t : Int)) = kvI (putN es x t) := by
  unfold putK putN
  rw [valV_any, valV_kvI, Option.isSome_map]
  split
  · unfold kvI
    rw [List.map_map, List.map_map]
    refine List.map_congr_left fun e _ => ?_
    show (if (kvN e).1 = .inl (x : Int) then ((kvN e).1, V.int (t : Int)) else kvN e) = kvN (if e.1 = x then (e.1, t) else e)
    by_cases h : e.1 = x
    · rw [if_pos h, if_pos (show (kvN e).1 = .inl (x : Int) from (key_eq _ _).mpr h)]; rfl
    · rw [if_neg h, if_neg (show ¬ (kvN e).1 = .inl (x : Int) from fun z => h ((key_eq _ _).mp z))]
  · unfold kvI
    rw [List.map_append]; rfl
theorem adr_o : ∀ {ρ : List Sl} {i : Nat} {p : Addr} {h : HO}, ρ[i]? = some (.o p h) → p ∈ adrs ρ
  | [], _, _, _, e => by simp at e
  | s :: ρ, 0, p, h, e => by
    have : s = .o p h := by simpa using e
    subst this
    exact List.mem_cons_self
  | s :: ρ, i + 1, p, h, e => by
    have ih := adr_o (ρ := ρ) (i := i) (p := p) (h := h) (by simpa using e)
    cases s <;> first | exact ih | exact List.mem_cons_of_mem _ ih
theorem adr_l : ∀ {ρ : List Sl} {i : Nat} {p : Addr} {ds : List PyData}, ρ[i]? = some (.l p ds) → p ∈ adrs ρ
  | [], _, _, _, e => by simp at e
  | s :: ρ, 0, p, h, e => by
    have : s = .l p h := by simpa using e
    subst this
    exact List.mem_cons_self
  | s :: ρ, i + 1, p, h, e => by
    have ih := adr_l (ρ := ρ) (i := i) (p := p) (ds := h) (by simpa using e)
    cases s <;> first | exact ih | exact List.mem_cons_of_mem _ ih
theorem adr_k : ∀ {ρ : List Sl} {i : Nat} {p : Addr} {P : Program} {w : World} {es : List (PyData × PyData)}, ρ[i]? = some (.k p P w es) → p ∈ adrs ρ
  | [], _, _, _, _, _, e => by simp at e
  | s :: ρ, 0, p, P, w, h, e => by
    have : s = .k p P w h := by simpa using e
    subst this
    exact List.mem_cons_self
  | s :: ρ, i + 1, p, P, w, h, e => by
    have ih := adr_k (ρ := ρ) (i := i) (p := p) (P := P) (w := w) (es := h) (by simpa using e)
    cases s <;> first | exact ih | exact List.mem_cons_of_mem _ ih
section
variable (K : PySem.W.Frag) (B : Hp)
/-- a new object -/
def EvH (te : TE) (ρ : List Sl) (o : HO) : Prop := ∀ σ H, Ex B H → EnvOk K B H σ ρ → ∀ Q : VK, (∀ p H2, Ex H H2 → H p = none → H2 p = some o → Q (.ref p) H2) → te σ H Q
end
def rDictC : List V → Hp → VK → Prop := fun xs H Q => ∃ (a : Addr) (kvs : List (Key × V)), xs = [.ref a] ∧ Rd H a (.dK kvs) ∧ ∀ p, H p = none → Q (.ref p) (L2.upd H p (.dK kvs))
theorem cr_dictC {X : Cx} : CallR X (.type "dict") rDictC := call_dictD
section
variable {K : PySem.W.Frag} {B : Hp} {ρ ρ' : List Sl} {te ti tv tx : TE} {S : Addr → Prop} {Z : Hp → Prop} {tz : TS} {D : Ends} {i j : Nat} {p : Addr} {es : NN} {h : HO} {x t : Nat}
theorem eh_00 : EvH K B (tDisp [(tC (.int 0), tC (.int 0))]) ρ (.dK (kvI [(0, 0)])) := fun σ H eb ok Q q p hp => by
  refine ⟨upd_same, [kvN (0, 0)], rfl, by simp, ?_⟩
  rw [upd_upd]
  exact q p _ (Evl.Ex.new hp) hp upd_same
theorem eh_copy {kvs : List (Key × V)} (hi : ρ[i]? = some (.o p (.dK kvs))) : EvH K B (tCB rDictC (tCons (tVar i) tNil)) ρ (.dK kvs) := fun σ H eb ok Q q => by
  obtain ⟨e1, h1⟩ := ok.o hi
  exact ⟨_, e1, p, kvs, rfl, .inl h1, fun l hl => q l _ (Evl.Ex.new hl) hl upd_same⟩
theorem keysI_dps {H : Hp} : ∀ es : NN, DpAll K H ((kvI es).map fun kv => kV kv.1) ((es.map (·.1)).map eI)
  | [] => .nil
  | _ :: es => .cons (.int _) (keysI_dps es)
theorem el_listI (hi : ρ[i]? = some (.o p (.dK (kvI es)))) : EvL K B (tCB rListI (tCons (tVar i) tNil)) ρ ((es.map (·.1)).map eI) := fun σ H eb ok Q q => by
  obtain ⟨e1, h1⟩ := ok.o hi
  refine ⟨_, e1, p, kvI es, rfl, .inl h1, fun l hl => q l _ _ (Evl.Ex.new hl) hl upd_same ?_⟩
  exact keysI_dps es
theorem ed_dget (hi : ρ[i]? = some (.o p (.dK (kvI es)))) (hx : EvD K B ti ρ (eI x)) {s : Nat} (hs : lookN es x = some s) : EvD K B (tDGet (tVar i) ti) ρ (eI s) := fun σ H eb ok Q q => by
  obtain ⟨e1, h1⟩ := ok.o hi
  refine ⟨_, e1, hx σ H eb ok _ fun y H1 ex hy => ?_⟩
  rw [dp_int hy]
  exact ⟨p, .int (s : Int), rfl, .inl ⟨kvI es, .inl (x : Int), .inl (ex _ _ h1), rfl, by rw [valV_kvI, hs]; rfl⟩, q _ H1 ex (.int _)⟩
def getD2 (es : NN) (x : Nat) : PyData := match lookN es x with | some s => eI s | none => .int (-1)
theorem ed_dget2 (hi : ρ[i]? = some (.o p (.dK (kvI es)))) (hx : EvD K B ti ρ (eI x)) (ht : EvD K B tx ρ (.int (-1))) : EvD K B (tDGet2 (tVar i) ti tx) ρ (getD2 es x) := fun σ H eb ok Q q => by
  obtain ⟨e1, h1⟩ := ok.o hi
  refine ⟨_, e1, p, rfl, .inl ⟨_, .inl h1⟩, hx σ H eb ok _ fun y H1 ex hy => ht σ H1 (eb.tr ex) (ok.ex ex) _ fun z H2 ex2 hz => ?_⟩
  rw [dp_int hy, dp_int hz]
  refine ⟨valV (kvI es) (.inl (x : Int)), .inl ⟨kvI es, .inl (x : Int), .inl (ex2 _ _ (ex _ _ h1)), rfl, rfl⟩, q _ H2 (ex.tr ex2) ?_⟩
  rw [valV_kvI]
  unfold getD2
  cases lookN es x with
  | some s => exact .int _
  | none => exact .int _
variable [zk : ZK S Z]
theorem q_asgH (he : EvH K B te ρ h) (c : ∀ p, New B S ρ p → TrR K B S Z tz (ρ.set i (.o p h)) D) : TrR K B S Z (tSeq (tAsg te (gName i)) tz) ρ D := fun σ H a =>
  he σ H a.eb a.ok _ fun p H1 e hp h1 => c p (a.new hp) _ _ ((a.ex e).set ⟨rfl, h1⟩)
theorem q_asgV (hi : ρ[i]? = some (.o p h)) (c : TrR K B S Z tz (ρ.set j (.o p h)) D) : TrR K B S Z (tSeq (tAsg (tVar i) (gName j)) tz) ρ D := fun σ H a => by
  obtain ⟨e1, h1⟩ := a.ok.o hi
  exact ⟨_, e1, c _ _ (a.set ⟨rfl, h1⟩)⟩
theorem q_dput (hi : ρ[i]? = some (.o p (.dK (kvI es)))) (hx : EvD K B ti ρ (eI x)) (hv : EvD K B tv ρ (eI t)) (hB : B p = none) (hS : ¬ S p) (hl : es.length < 100000) (hρ : ρ.map (putL p (.o p (.dK (kvI (putN es x t))))) = ρ') (c : TrR K B S Z tz ρ' D) :
    TrR K B S Z (tSeq (sDPut (tVar i) ti tv) tz) ρ D := fun σ H a => hv σ H a.eb a.ok _ fun z H1 e1 hz => by
  obtain ⟨e2, h1⟩ := a.ok.o hi
  refine ⟨_, e2, hx σ H1 (a.eb.tr e1) (a.ok.ex e1) _ fun y H2 e3 hy => ?_⟩
  rw [dp_int hy, dp_int hz]
  have hp := e3 _ _ (e1 _ _ h1)
  refine ⟨p, _, rfl, DPut.k (k := .inl (x : Int)) hp (Evl.sz_lt (by simpa [kvI] using hl)), ?_⟩
  rw [putK_kvI]
  have h4 := ((a.ex e1).ex e3).upd (o := .dK (kvI (putN es x t))) (s' := .o p (.dK (kvI (putN es x t)))) hp rfl hB hS ⟨rfl, upd_same⟩
  rw [hρ] at h4
  exact c _ _ h4
omit zk in
/-- [d[k] for k in d] -/
theorem el_lockV (hi : ρ[i]? = some (.o p (.dK (kvI es)))) (hij : i ≠ j) (hl : es.length ≤ 50000) (nd : (es.map (·.1)).Nodup) (hj : j < ρ.length) : EvL K B (tLockE (tLc (iKeys (tVar i)) (gName j) tYes (tDGet (tVar i) (tVar j)) [j])) ρ ((es.map (·.2)).map eI) := fun σ H eb ok Q q => by
  obtain ⟨e1, h1⟩ := ok.o hi
  have hsl : j < σ.length := by rw [ok.len]; exact hj
  refine ⟨p, _, h1, trivial, fun od => ?_⟩
  generalize hH1 : L2.upd H p (.frz od (.dK (kvI es))) = H1
  have k1 : H1 p = some (.frz od (.dK (kvI es))) := by rw [← hH1]; exact upd_same
  refine ⟨_, e1, p, od, rfl, .inl ⟨kvI es, k1, fun D hD => ⟨fun n m H' => m = es.length - n ∧ n ≤ es.length ∧ H1 D = none ∧ Ex H1 H' ∧ H' D = some (.lst ((es.take n).map fun e => V.int (e.2 : Int))), ⟨es.length, by simp, Nat.zero_le _, hD, Evl.Ex.new hD, upd_same⟩, ?_⟩⟩⟩
  rintro n m H' ⟨rfl, hn, h0, ex, hacc⟩
  have hkl : (kvI es).length = es.length := by simp [kvI]
  have hp' := ex _ _ k1
  by_cases hlt : n < es.length
  · refine .inr ⟨⟨hp', by rw [hkl]; exact hlt⟩, fun H2 => H1 D = none ∧ Ex H1 H2 ∧ H2 D = some (.lst ((es.take (n + 1)).map fun e => V.int (e.2 : Int))), fun H2 q2 => ⟨es.length - (n + 1), by omega, rfl, hlt, q2⟩, fun x H2 yl => ?_⟩
    obtain ⟨rfl, k, v, hk, rfl⟩ := yl
    obtain ⟨e, he⟩ : ∃ e, es[n]? = some e := ⟨_, List.getElem?_eq_getElem hlt⟩
    have hke : (k, v) = kvN e := by
      have : (kvI es)[n]? = some (kvN e) := by simp [kvI, he]
      rw [hk] at this; exact Option.some.inj this
    cases hke
    have hs : lookN es e.1 = some e.2 := by
      have gen : ∀ (es : NN) (n : Nat), (es.map (·.1)).Nodup → es[n]? = some e → lookN es e.1 = some e.2 := by
        intro es
        induction es with
        | nil => intro n _ h; simp at h
        | cons a es ih =>
          intro n nd h
          rw [List.map_cons, List.nodup_cons] at nd
          cases n with
          | zero =>
            have : a = e := by simpa using h
            subst this
            simp [lookN]
          | succ n =>
            have h : es[n]? = some e := by simpa using h
            have hne : ¬ a.1 = e.1 := fun z => nd.1 (z ▸ List.mem_map.mpr ⟨e, List.mem_of_getElem? h, rfl⟩)
            have := ih n nd.2 h
            unfold lookN at this ⊢
            rw [List.find?_cons]
            simpa [hne] using this
      exact gen es n nd he
    show wipe ((wipe σ [j]).set j (some (.int (e.1 : Int)))) [j] = wipe σ [j] ∧ tDGet (tVar i) (tVar j) ((wipe σ [j]).set j (some (.int (e.1 : Int)))) H2 _
    rw [wipe1s]
    refine ⟨by rw [← wipe1s (σ := σ), wipe1], .ref p, ?_, .int (e.1 : Int), ?_, p, .int (e.2 : Int), rfl, .inl ⟨kvI es, .inl (e.1 : Int), .inr ⟨od, hp'⟩, rfl, by rw [valV_kvI, hs]; rfl⟩, _, hacc, Evl.sz_lt (by simp; omega), h0, Evl.Ex.mut ex h0, ?_⟩
    · rw [List.getElem?_set_ne (Ne.symm hij)]; exact e1
    · rw [List.getElem?_set_self hsl]
    · rw [upd_same, List.take_add_one, he, List.map_append]
      rfl
  · have en : n = es.length := by omega
    subst en
    refine .inl ⟨⟨hp', by rw [hkl]; exact Nat.le_refl _⟩, hp', ?_⟩
    rw [List.take_length] at hacc
    have hDp : D ≠ p := fun z => by rw [z, k1] at h0; cases h0
    refine q D _ _ (fun a o ha => ?_) ?_ (by rw [upd_ne hDp]; exact hacc) ?_
    · by_cases hap : a = p
      · subst hap
        rw [h1] at ha; cases ha
        exact upd_same
      · rw [upd_ne hap]
        refine ex _ _ ?_
        rw [← hH1, upd_ne hap]; exact ha
    · rw [← hH1, upd_ne hDp] at h0; exact h0
    · have h5 := dps_of_ints (K := K) (H := L2.upd H' p (.dK (kvI es))) (es.map fun e => (e.2 : Int))
      rw [List.map_map, List.map_map] at h5
      rw [List.map_map]
      exact h5
end
end Fk
/-! the walks, 1: lots -/
namespace Fk
open PySem PySem.Spec PyProof.Rows L2
section
variable {P : Program} {w : World} {K : PySem.W.Frag} {mg : Str → Option Value} {base : Heap}
/-! bits_of -/
def R_bits_of (ds : List PyData) (d : PyData) : Prop := ∃ l : Lot, ds = [eLot l] ∧ (∀ x ∈ l, x ≤ 1000) ∧ d = eI (bitsOf l)
abbrev sp_bits_of (K : PySem.W.Frag) : Sp := spD K R_bits_of
theorem len_bits_of : ∀ ds d, R_bits_of ds d → ds.length = 1 := by rintro ds d ⟨l, rfl, _⟩; rfl
theorem bitsOf_take {l : Lot} {i a : Nat} (h : l[i]? = some a) : bitsOf (l.take (i + 1)) = bitsOf (l.take i) ||| (1 <<< a) := by
  unfold bitsOf
  rw [List.take_add_one, h, List.foldl_append]
  rfl
-- slots: lot:0 bits:1 leaf:2  level 1
abbrev N_bits_of : List Str := ["lot", "bits", "leaf"]
theorem sc_bits_of : FnScope N_bits_of ["lot"] (defScope s_bits_of) := ⟨rfl, rfl, rfl, by decide +kernel, rfl, by decide +kernel, by decide +kernel⟩
theorem bd_bits_of : BindsBy "bits_of" s_bits_of ["lot"] := fun _ _ _ _ _ _ us hl => match us, hl with | [_], _ => rfl
theorem ok_bits_of (F : Here K mg "bits_of" s_bits_of) (bs : Bs mg) : Ok P w K mg base 1 "bits_of" ["lot"] (sp_bits_of K) := by
  have nd := sc_bits_of.nd
  refine mkG F sc_bits_of bd_bits_of (lenD len_bits_of) fun f cdv A outer s H E hg hr => ⟨_, (pss_cons (ps_set (i := 1) nd rfl (Or.inl rfl) pe_int)
    (pss_cons (ps_for PassesOwn.never rfl (pi_tk K rfl (pv 0)) (pg_name (i := 2) nd rfl (Or.inl rfl)) (pss_cons (ps_set (i := 1) nd rfl (Or.inl rfl) (pe_op op_or (pv 1) (pe_op op_shl pe_int (pv 2))))
    pss_nil))
    (pss_cons (ps_ret (pv 1))
    pss_nil))), runD fun B ds d hR D hD => ?_⟩
  obtain ⟨l, rfl, hl, rfl⟩ := hR
  refine q_asg (d := eI 0) ed_int rfl ?_
  refine q_forT (enc := eI) (xs := l) (ed_var rfl) (fun _ _ => rfl) (ρn := fun ρ a => ρ.set 2 (.d (eI a))) (fun i ρ => ∃ s, ρ = [.d (eLot l), .d (eI (bitsOf (l.take i))), s]) ⟨.un, rfl⟩ (fun Z' ρ' a _ => gt_name rfl) (fun Z' zk' hz i a ρ' ha hp => ?_) fun ρ' hp => ?_
  · obtain ⟨s, rfl⟩ := hp
    refine q_asg (d := eI (bitsOf (l.take i) ||| (1 <<< a))) (ed_op (ed_var rfl) (ed_op (x := eI 1) ed_int (ed_var rfl) (rd_shl ⟨by decide, hl a (List.mem_of_getElem? ha)⟩)) rd_or) rfl ?_
    refine q_lf ⟨.d (eI a), ?_⟩
    rw [bitsOf_take ha]
    rfl
  · obtain ⟨s, rfl⟩ := hp
    rw [List.take_length]
    exact q_ret (ed_var rfl) fun v H' e _ h => hD v H' e h
/-! lot_key -/
def R_lot_key (ds : List PyData) (d : PyData) : Prop := ∃ l : Lot, ds = [eLot l] ∧ d = eKey l
abbrev sp_lot_key (K : PySem.W.Frag) : Sp := spD K R_lot_key
theorem len_lot_key : ∀ ds d, R_lot_key ds d → ds.length = 1 := by rintro ds d ⟨l, rfl, _⟩; rfl
-- slots: lot:0  level 1
abbrev N_lot_key : List Str := ["lot"]
theorem sc_lot_key : FnScope N_lot_key ["lot"] (defScope s_lot_key) := ⟨rfl, rfl, rfl, by decide +kernel, rfl, by decide +kernel, by decide +kernel⟩
theorem bd_lot_key : BindsBy "lot_key" s_lot_key ["lot"] := fun _ _ _ _ _ _ us hl => match us, hl with | [_], _ => rfl
theorem ok_lot_key (F : Here K mg "lot_key" s_lot_key) (bs : Bs mg) : OkP P w K mg base 1 "lot_key" ["lot"] (sp_lot_key K) := by
  have nd := sc_lot_key.nd
  refine mkP F sc_lot_key bd_lot_key (lenD len_lot_key) fun f cdv A outer s H E hr => ⟨_, (pss_cons (ps_ret (pe_tup (pa_cons (pe_callB (cr_lenk K rfl) rfl bs.len boot_len (pa_cons (pv 0) pa_nil)) (pa_cons (pv 0) pa_nil))))
    pss_nil), runD fun B ds d hR D hD => ?_⟩
  obtain ⟨l, rfl, rfl⟩ := hR
  refine q_ret (d := eKey l) (ed_tup (ea_cons (d := eI l.length) (ed_is (ed_cb (ea_cons (ed_var rfl) ea_nil) rc_lenT) (by rw [List.length_map]; rfl)) (ea_cons (ed_var rfl) ea_nil)) (by simp)) fun v H' e _ h => hD v H' e h
/-! all_bits -/
def R_all_bits (ds : List PyData) (d : PyData) : Prop := ∃ n : Nat, ds = [eI n] ∧ n ≤ 1000 ∧ d = eI ((1 <<< n) - 1)
abbrev sp_all_bits (K : PySem.W.Frag) : Sp := spD K R_all_bits
theorem len_all_bits : ∀ ds d, R_all_bits ds d → ds.length = 1 := by rintro ds d ⟨l, rfl, _⟩; rfl
theorem sub_nat {a b : Nat} (h : b ≤ a) : (a : Int) - (b : Int) = ((a - b : Nat) : Int) := by omega
-- slots: size:0  level 1
abbrev N_all_bits : List Str := ["size"]
theorem sc_all_bits : FnScope N_all_bits ["size"] (defScope s_all_bits) := ⟨rfl, rfl, rfl, by decide +kernel, rfl, by decide +kernel, by decide +kernel⟩
theorem bd_all_bits : BindsBy "all_bits" s_all_bits ["size"] := fun _ _ _ _ _ _ us hl => match us, hl with | [_], _ => rfl
theorem ok_all_bits (F : Here K mg "all_bits" s_all_bits) (bs : Bs mg) : Ok P w K mg base 1 "all_bits" ["size"] (sp_all_bits K) := by
  have nd := sc_all_bits.nd
  refine mkG F sc_all_bits bd_all_bits (lenD len_all_bits) fun f cdv A outer s H E hg hr => ⟨_, (pss_cons (ps_ret (pe_op op_sub (pe_op op_shl pe_int (pv 0)) pe_int))
    pss_nil), runD fun B ds d hR D hD => ?_⟩
  obtain ⟨n, rfl, hn, rfl⟩ := hR
  refine q_ret (d := eI ((1 <<< n) - 1)) (ed_is (ed_op (ed_op (x := eI 1) ed_int (ed_var rfl) (rd_shl ⟨by decide, hn⟩)) ed_int rd_sub) ?_) fun v H' e _ h => hD v H' e h
  have h : 1 ≤ 1 <<< n := by rw [Nat.one_shiftLeft]; exact Nat.one_le_two_pow
  show PyData.int (((1 <<< n : Nat) : Int) - ((1 : Nat) : Int)) = _
  rw [sub_nat h]; rfl
/-! is_tip -/
def R_is_tip (ds : List PyData) (d : PyData) : Prop := ∃ b : Nat, ds = [eI b] ∧ d = .bool (isTip b)
abbrev sp_is_tip (K : PySem.W.Frag) : Sp := spD K R_is_tip
theorem len_is_tip : ∀ ds d, R_is_tip ds d → ds.length = 1 := by rintro ds d ⟨l, rfl, _⟩; rfl
-- slots: bits:0  level 1
abbrev N_is_tip : List Str := ["bits"]
theorem sc_is_tip : FnScope N_is_tip ["bits"] (defScope s_is_tip) := ⟨rfl, rfl, rfl, by decide +kernel, rfl, by decide +kernel, by decide +kernel⟩
theorem bd_is_tip : BindsBy "is_tip" s_is_tip ["bits"] := fun _ _ _ _ _ _ us hl => match us, hl with | [_], _ => rfl
theorem ok_is_tip (F : Here K mg "is_tip" s_is_tip) (bs : Bs mg) : Ok P w K mg base 1 "is_tip" ["bits"] (sp_is_tip K) := by
  have nd := sc_is_tip.nd
  refine mkG F sc_is_tip bd_is_tip (lenD len_is_tip) fun f cdv A outer s H E hg hr => ⟨_, (pss_cons (ps_ret (pe_and (pe_cmpR (op_nek K rfl hr.units) (pv 0) pe_int (nomark _)) (pe_one (pe_cmpR (op_eqk K rfl hr.units) (pe_op op_and (pv 0) (pe_op op_sub (pv 0) pe_int)) pe_int (nomark _)))))
    pss_nil), runD fun B ds d hR D hD => ?_⟩
  obtain ⟨b, rfl, rfl⟩ := hR
  refine q_ret (d := .bool (isTip b)) ?_ fun v H' e _ h => hD v H' e h
  refine ed_is (ed_andV (a := decide (b ≠ 0)) (b := decide (b &&& (b - 1) = 0)) (ed_is (ed_op (ed_var rfl) ed_int rd_neI) ?_) fun h => ed_is (ed_op (ed_op (ed_var rfl) (ed_is (d := eI (b - 1)) (ed_op (ed_var rfl) ed_int rd_sub) ?_) rd_and) ed_int rd_eqI) ?_) rfl
  · congr 1
    by_cases h : b = 0 <;> simp [h]
  · have h : b ≠ 0 := of_decide_eq_true h
    show PyData.int ((b : Int) - ((1 : Nat) : Int)) = _
    rw [sub_nat (by omega)]; rfl
  · congr 1
    by_cases h : (b &&& (b - 1)) = 0
    · simp [h]
    · simp only [h, decide_false, decide_eq_false_iff_not]; omega
end
end Fk
/-! the walks, 2: bits, in order -/
namespace Fk
open PySem PySem.Spec PyProof.Rows L2
theorem dlt (a b : Nat) : decide ((a : Int) < (b : Int)) = decide (a < b) := decide_eq_decide.mpr Int.ofNat_lt
theorem dle (a b : Nat) : decide ((a : Int) ≤ (b : Int)) = decide (a ≤ b) := decide_eq_decide.mpr Int.ofNat_le
theorem deq (a b : Nat) : decide ((a : Int) = (b : Int)) = decide (a = b) := decide_eq_decide.mpr Int.ofNat_inj
theorem tb_shr (b k : Nat) : ((b >>> k) &&& 1 = 1) ↔ b.testBit k = true := by
  rw [Nat.and_one_is_mod, Nat.testBit_eq_decide_div_mod_eq, Nat.shiftRight_eq_div_pow]; simp
theorem shr0 {b k : Nat} (h : b >>> k = 0) {i : Nat} (hi : k ≤ i) : b.testBit i = false := by
  have : b < 2 ^ k := by
    rw [Nat.shiftRight_eq_div_pow] at h
    exact (Nat.div_eq_zero_iff_lt (Nat.two_pow_pos k)).mp h
  exact Nat.testBit_lt_two_pow (Nat.lt_of_lt_of_le this (Nat.pow_le_pow_right (by decide) hi))
theorem lotOf_short {b k : Nat} (hb : b < 1024) (hk : k ≤ 10) (h : b >>> k = 0) : (List.range k).filter (fun i => b.testBit i) = lotOf b := by
  unfold lotOf
  obtain ⟨j, hj⟩ : ∃ j, 10 = k + j := ⟨10 - k, by omega⟩
  rw [hj, List.range_add, List.filter_append]
  have : (List.map (fun x => k + x) (List.range j)).filter (fun i => b.testBit i) = [] := by
    rw [List.filter_eq_nil_iff]
    intro i hi
    obtain ⟨m, _, rfl⟩ := List.mem_map.mp hi
    rw [shr0 h (by omega)]; simp
  rw [this, List.append_nil]
theorem shr10 {b : Nat} (hb : b < 1024) : b >>> 10 = 0 := by
  rw [Nat.shiftRight_eq_div_pow]
  exact Nat.div_eq_of_lt hb
theorem bitsOf_lot : ∀ b, b < 1024 → bitsOf (lotOf b) = b := by decide +kernel
theorem lotOf_inj {a b : Nat} (ha : a < 1024) (hb : b < 1024) (h : lotOf a = lotOf b) : a = b := by rw [← bitsOf_lot a ha, ← bitsOf_lot b hb, h]
theorem lotOf_lt {b x : Nat} (h : x ∈ lotOf b) : x < 10 := by
  have := (List.mem_filter.mp h).1
  simpa using this
theorem lotOf_len (b : Nat) : (lotOf b).length ≤ 10 := by
  have := List.length_filter_le (fun i => b.testBit i) (List.range 10)
  simpa [lotOf] using this
section
variable {P : Program} {w : World} {K : PySem.W.Frag} {mg : Str → Option Value} {base : Heap}
/-! lot_of -/
def R_lot_of (ds : List PyData) (d : PyData) : Prop := ∃ b : Nat, ds = [eI b] ∧ b < 1024 ∧ d = eLot (lotOf b)
abbrev sp_lot_of (K : PySem.W.Frag) : Sp := spD K R_lot_of
theorem len_lot_of : ∀ ds d, R_lot_of ds d → ds.length = 1 := by rintro ds d ⟨l, rfl, _⟩; rfl
-- slots: bits:0 found:1 leaf:2  level 1
abbrev N_lot_of : List Str := ["bits", "found", "leaf"]
theorem sc_lot_of : FnScope N_lot_of ["bits"] (defScope s_lot_of) := ⟨rfl, rfl, rfl, by decide +kernel, rfl, by decide +kernel, by decide +kernel⟩
theorem bd_lot_of : BindsBy "lot_of" s_lot_of ["bits"] := fun _ _ _ _ _ _ us hl => match us, hl with | [_], _ => rfl
theorem ok_lot_of (F : Here K mg "lot_of" s_lot_of) (bs : Bs mg) : OkP P w K mg base 1 "lot_of" ["bits"] (sp_lot_of K) := by
  have nd := sc_lot_of.nd
  refine mkP F sc_lot_of bd_lot_of (lenD len_lot_of) fun f cdv A outer s H E hr => ⟨_, (pss_cons (ps_par (i := 1) (j := 2) rfl nd rfl rfl (by decide) rfl rfl (pa_cons (pe_lst pa_nil) (pa_cons pe_int pa_nil)) rfl)
    (pss_cons (ps_while PassesOwn.never (pt_cmpR op_gt (pe_op op_shr (pv 0) (pv 2)) pe_int (nomark _)) (pss_cons (ps_if (pt_cmpR (op_eqk K rfl hr.units) (pe_op op_and (pe_op op_shr (pv 0) (pv 2)) pe_int) pe_int (nomark _)) (pss_cons (ps_expr (pe_bm PySem.F.plainAttrs_list PySem.F.slot_list_append PySem.F.type_list_append mt_append (pv 1) (pa_cons (pv 2) pa_nil)))
    pss_nil) pss_nil)
    (pss_cons (ps_set (i := 2) nd rfl (Or.inl rfl) (pe_op op_add (pv 2) pe_int))
    pss_nil)))
    (pss_cons (ps_ret (pe_callTy (cr_tupk K rfl) rfl bs.tuple boot_tuple (pa_cons (pv 1) pa_nil)))
    pss_nil))), runD fun B ds d hR D hD => ?_⟩
  obtain ⟨b, rfl, hb, rfl⟩ := hR
  refine q_parLD (ds := []) (d := eI 0) (el_lst ea_nil (by simp)) ed_int rfl rfl fun p np => ?_
  refine q_while (P := fun m ρ => ∃ k, k ≤ 10 ∧ m = 10 - k ∧ ρ = [.d (eI b), .l p (((List.range k).filter fun i => b.testBit i).map eI), .d (eI k)]) 10 ⟨0, by omega, rfl, rfl⟩ ?_
  rintro m ρ ⟨k, hk, rfl, rfl⟩
  refine ⟨decide (0 < b >>> k), et_is (et_test (ed_op (ed_op (ed_var rfl) (ed_var rfl) rd_shr) ed_int rd_gt)) (dlt 0 _), fun h => ?_, fun h => ?_⟩
  · have hk' : k < 10 := Nat.lt_of_not_le fun h2 => by
      have e : k = 10 := by omega
      subst e
      rw [shr10 hb] at h; simp at h
    have go : ∀ D2 : Ends, ∀ ρ2, ρ2 = [.d (eI b), .l p (((List.range (k + 1)).filter fun i => b.testBit i).map eI), .d (eI k)] → (∀ ρ3, ρ3 = [.d (eI b), .l p (((List.range (k + 1)).filter fun i => b.testBit i).map eI), .d (eI (k + 1))] → TrR K B S0 Z0 tNext ρ3 D2) → TrR K B S0 Z0 (tSeq (tAsg (tOp (rI0 fun i j => .int (i + j)) (tVar 2) (tC (.int 1))) (gName 2)) tNext) ρ2 D2 := by
      rintro D2 ρ2 rfl h3
      exact q_asg (d := eI (k + 1)) (ed_is (ed_op (ed_var rfl) ed_int rd_add) rfl) rfl (h3 _ rfl)
    refine q_if (b := b.testBit k) (et_is (et_test (ed_op (ed_op (y := eI 1) (ed_op (ed_var rfl) (ed_var rfl) rd_shr) ed_int rd_and) ed_int rd_eqI)) ?_) (fun hb1 => ?_) (fun hb0 => ?_)
    · have e := tb_shr b k
      by_cases q : b.testBit k = true
      · rw [q, decide_eq_true]; exact congrArg _ (e.mpr q)
      · rw [Bool.not_eq_true] at q
        rw [q, decide_eq_false]
        intro z
        have z : (((b >>> k) &&& 1 : Nat) : Int) = ((1 : Nat) : Int) := z
        rw [e.mp (Int.ofNat_inj.mp z)] at q; cases q
    · refine q_app (p := p) (ds := ((List.range k).filter fun i => b.testBit i).map eI) rfl (ed_var rfl) rfl np.b np.s ?_ (by simp [putL]; rfl) ?_
      · have := List.length_filter_le (fun i => b.testBit i) (List.range k)
        rw [List.length_map]; simp at this; omega
      · refine go _ _ ?_ ?_
        · rw [List.range_succ, List.filter_append]
          simp [hb1]
        · rintro ρ3 rfl
          exact q_lf ⟨10 - (k + 1), by omega, k + 1, by omega, rfl, rfl⟩
    · refine q_next (go _ _ ?_ ?_)
      · rw [List.range_succ, List.filter_append]
        simp [hb0]
      · rintro ρ3 rfl
        exact q_lf ⟨10 - (k + 1), by omega, k + 1, by omega, rfl, rfl⟩
  · have hz : b >>> k = 0 := by simpa using h
    refine q_ret (d := eLot (lotOf b)) (ed_cb (ea_cons (ed_varL rfl) ea_nil) ?_) fun v H' e _ h => hD v H' e h
    rw [lotOf_short hb hk hz]
    exact rc_tupL
end
end Fk
/-! the walks, 3 -/
namespace Fk
open PySem PySem.Spec PyProof.Rows L2
def Lt10 (l : Lot) : Prop := ∀ x ∈ l, x < 10
def Lt10s (ls : List Lot) : Prop := ∀ l ∈ ls, Lt10 l
theorem bitsOf_lt {l : Lot} (h : Lt10 l) : bitsOf l < 1024 := by
  have gen : ∀ (l : Lot) (a : Nat), a < 2 ^ 10 → Lt10 l → l.foldl (fun b x => b ||| (1 <<< x)) a < 2 ^ 10 := by
    intro l
    induction l with
    | nil => intro a h _; exact h
    | cons x l ih =>
      intro a ha hl
      rw [List.foldl_cons]
      refine ih _ (Nat.or_lt_two_pow ha ?_) fun y hy => hl y (List.mem_cons_of_mem _ hy)
      rw [Nat.one_shiftLeft]
      exact Nat.pow_lt_pow_right (by decide) (hl x List.mem_cons_self)
  exact gen l 0 (by decide) h
theorem le1000 {l : Lot} (h : Lt10 l) : ∀ x ∈ l, x ≤ 1000 := fun x hx => by have := h x hx; omega
def rankB (a b : Nat) : Bool := rankLe (lotOf a) (lotOf b)
def ordB (bs : List Nat) : List Nat := isort rankB (dedup bs)
theorem ordB_mem {bs : List Nat} {x : Nat} : x ∈ ordB bs ↔ x ∈ bs := ((isort_perm _ _).mem_iff).trans ((dedup_spec bs).2 x)
theorem ordB_len (bs : List Nat) : (ordB bs).length ≤ bs.length := by
  have e : (ordB bs).length = (dedup bs).length := (isort_perm _ _).length_eq
  rw [e]
  have gen : ∀ (l acc : List Nat), (l.foldl dstep acc).length ≤ acc.length + l.length := by
    intro l
    induction l with
    | nil => intro acc; simp
    | cons x l ih =>
      intro acc
      rw [List.foldl_cons]
      have h1 := ih (dstep acc x)
      have h2 : (dstep acc x).length ≤ acc.length + 1 := by
        unfold dstep
        split <;> simp
      rw [List.length_cons]; omega
  simpa [dedup] using gen bs []
theorem msortB {bs : List Nat} (h : ∀ b ∈ bs, b < 1024) : (dedup bs).mergeSort rankB = ordB bs := msort_is (r := rankB) (fun a b c h1 h2 => rank_tr (lotOf a) (lotOf b) (lotOf c) h1 h2) (fun a b => rank_tot (lotOf a) (lotOf b)) _ fun a ha b hb x y =>
  lotOf_inj (h a (((dedup_spec bs).2 a).mp ha)) (h b (((dedup_spec bs).2 b).mp hb)) (rank_anti _ _ x y)
section
variable {P : Program} {w : World} {K : PySem.W.Frag} {mg : Str → Option Value} {base : Heap}
/-! bits_key -/
def R_bits_key (ds : List PyData) (d : PyData) : Prop := ∃ b : Nat, ds = [eI b] ∧ b < 1024 ∧ d = eKey (lotOf b)
abbrev sp_bits_key (K : PySem.W.Frag) : Sp := spD K R_bits_key
theorem len_bits_key : ∀ ds d, R_bits_key ds d → ds.length = 1 := by rintro ds d ⟨l, rfl, _⟩; rfl
-- slots: bits:0  level 2
abbrev N_bits_key : List Str := ["bits"]
theorem sc_bits_key : FnScope N_bits_key ["bits"] (defScope s_bits_key) := ⟨rfl, rfl, rfl, by decide +kernel, rfl, by decide +kernel, by decide +kernel⟩
theorem bd_bits_key : BindsBy "bits_key" s_bits_key ["bits"] := fun _ _ _ _ _ _ us hl => match us, hl with | [_], _ => rfl
theorem ok_bits_key (F : Here K mg "bits_key" s_bits_key) (bs : Bs mg) (h_lot_key : OkP P w K mg base 1 "lot_key" ["lot"] (sp_lot_key K)) (h_lot_of : OkP P w K mg base 1 "lot_of" ["bits"] (sp_lot_of K)) : OkP P w K mg base 2 "bits_key" ["bits"] (sp_bits_key K) := by
  have nd := sc_bits_key.nd
  refine mkP F sc_bits_key bd_bits_key (lenD len_bits_key) fun f cdv A outer s H E hr => ⟨_, (pss_cons (ps_ret (pe_callP h_lot_key hr rfl (pa_cons (pe_callP h_lot_of hr rfl (pa_cons (pv 0) pa_nil)) pa_nil)))
    pss_nil), runD fun B ds d hR D hD => ?_⟩
  obtain ⟨b, rfl, hb, rfl⟩ := hR
  exact q_ret (d := eKey (lotOf b)) (ed_call (ea_cons (ed_call (d := eLot (lotOf b)) (ea_cons (ed_var rfl) ea_nil) ⟨b, rfl, hb, rfl⟩) ea_nil) ⟨_, rfl, rfl⟩) fun v H' e _ h => hD v H' e h
/-! ordered_bits -/
def R_ordered_bits (ds : List PyData) (es : List PyData) : Prop := ∃ bs : List Nat, ds = [.list (bs.map eI)] ∧ (∀ b ∈ bs, b < 1024) ∧ bs.length ≤ 1000 ∧ es = (ordB bs).map eI
abbrev sp_ordered_bits (K : PySem.W.Frag) : Sp := spL K R_ordered_bits
theorem len_ordered_bits : ∀ ds d, R_ordered_bits ds d → ds.length = 1 := by rintro ds d ⟨l, rfl, _⟩; rfl
def kB : PyData → PyData
  | .int i => eKey (lotOf i.toNat)
  | d => d
theorem kB_I (b : Nat) : kB (eI b) = eKey (lotOf b) := rfl
theorem sortable_keys {α : Type} (l : List α) (f : α → Lot) : PySem.W.Sortable (l.map fun a => eKey (f a)) := .inl fun d hd => by
  obtain ⟨a, _, rfl⟩ := List.mem_map.mp hd
  exact ⟨_, _, rfl⟩
theorem alike_keys {α : Type} (l : List α) (f : α → Lot) : PySem.W.AllAlike (l.map fun a => eKey (f a)) := fun d hd d' hd' => by
  obtain ⟨a, _, rfl⟩ := List.mem_map.mp hd
  obtain ⟨b, _, rfl⟩ := List.mem_map.mp hd'
  exact alike_key _ _
-- slots: some:0 bits:1  level 5
abbrev N_ordered_bits : List Str := ["some", "bits"]
theorem sc_ordered_bits : FnScope N_ordered_bits ["some"] (defScope s_ordered_bits) := ⟨rfl, rfl, rfl, by decide +kernel, rfl, by decide +kernel, by decide +kernel⟩
theorem bd_ordered_bits : BindsBy "ordered_bits" s_ordered_bits ["some"] := fun _ _ _ _ _ _ us hl => match us, hl with | [_], _ => rfl
theorem ok_ordered_bits (F : Here K mg "ordered_bits" s_ordered_bits) (bs : Bs mg) (h_bits_key : OkP P w K mg base 2 "bits_key" ["bits"] (sp_bits_key K)) : Ok P w K mg base 5 "ordered_bits" ["some"] (sp_ordered_bits K) := by
  have nd := sc_ordered_bits.nd
  refine mkG F sc_ordered_bits bd_ordered_bits (lenL len_ordered_bits) fun f cdv A outer s H E hg hr => ⟨_, (pss_cons (ps_ret (pe_sortK h_bits_key (hr.mono (by decide)) rfl bs.sorted rfl (pa_cons (pe_callTy (cr_listI rfl) rfl bs.list boot_list (pa_cons (pe_callTy (cr_dictI rfl) rfl bs.dict boot_dict (pa_cons (pe_lc (own := [("bits", 1)]) rfl nd (pi_lk K rfl (pv 0)) (blk1 rfl rfl rfl rfl rfl) (fun _ _ _ _ _ => pg_name (i := 1) nd rfl (by first | exact Or.inl rfl | exact Or.inr rfl)) (fun _ _ _ _ _ => pts_nil) (fun _ _ _ _ _ => (pe_tup (pa_cons (pv 1) (pa_cons pe_bl pa_nil))))) pa_nil)) pa_nil)) pa_nil)))
    pss_nil), runL fun B ds es hR D hD => ?_⟩
  obtain ⟨bs', rfl, hb, hl, rfl⟩ := hR
  refine q_retL (ds := (ordB bs').map eI) (el_is (el_sortK (enc := eI) (kf := kB) (l := dedup bs') (ed_L (el_listDictI (ed_L (el_lcL' (enc := eI) (f := fun b => .tuple [eI b, .bool true]) (ed_var rfl) (by omega) (fun _ _ => rfl) (fun a _ => ed_tup (ea_cons (ed_var rfl) (ea_cons ed_bl ea_nil)) (by simp)) fun _ _ => by simp [noL, noLs, eI])))) ?_ ?_ ?_ ?_ ?_) ?_) hD
  · exact fun a ha => ⟨a, rfl, hb a (((dedup_spec bs').2 a).mp ha), rfl⟩
  · exact alike_keys _ lotOf
  · exact sortable_keys _ lotOf
  · exact fun a _ => nl_Key _
  · exact fun a _ => depth_key _
  · rw [← msortB hb]
    congr 1
    congr 1
    funext a b
    exact key_le (lf := lotOf) rfl rfl
/-! in_order -/
def R_in_order (ds : List PyData) (d : PyData) : Prop := ∃ ls : List Lot, ds = [eLots ls] ∧ ls.length ≤ 1000 ∧ d = eLots (ordL ls)
abbrev sp_in_order (K : PySem.W.Frag) : Sp := spD K R_in_order
theorem len_in_order : ∀ ds d, R_in_order ds d → ds.length = 1 := by rintro ds d ⟨l, rfl, _⟩; rfl
def kL : PyData → PyData
  | .tuple ds => .tuple [.int (ds.length : Nat), .tuple ds]
  | d => d
theorem kL_L (l : Lot) : kL (eLot l) = eKey l := by simp [kL, eLot, eKey, eI]
-- slots: lots:0 lot:1  level 4
abbrev N_in_order : List Str := ["lots", "lot"]
theorem sc_in_order : FnScope N_in_order ["lots"] (defScope s_in_order) := ⟨rfl, rfl, rfl, by decide +kernel, rfl, by decide +kernel, by decide +kernel⟩
theorem bd_in_order : BindsBy "in_order" s_in_order ["lots"] := fun _ _ _ _ _ _ us hl => match us, hl with | [_], _ => rfl
theorem ok_in_order (F : Here K mg "in_order" s_in_order) (bs : Bs mg) (h_lot_key : OkP P w K mg base 1 "lot_key" ["lot"] (sp_lot_key K)) : Ok P w K mg base 4 "in_order" ["lots"] (sp_in_order K) := by
  have nd := sc_in_order.nd
  refine mkG F sc_in_order bd_in_order (lenD len_in_order) fun f cdv A outer s H E hg hr => ⟨_, (pss_cons (ps_ret (pe_callTy (cr_tupk K rfl) rfl bs.tuple boot_tuple (pa_cons (pe_sortK h_lot_key (hr.mono (by decide)) rfl bs.sorted rfl (pa_cons (pe_callTy (cr_listN rfl) rfl bs.list boot_list (pa_cons (pe_callTy (cr_dictN hr.units rfl) rfl bs.dict boot_dict (pa_cons (pe_lc (own := [("lot", 1)]) rfl nd (pi_tk K rfl (pv 0)) (blk1 rfl rfl rfl rfl rfl) (fun _ _ _ _ _ => pg_name (i := 1) nd rfl (by first | exact Or.inl rfl | exact Or.inr rfl)) (fun _ _ _ _ _ => pts_nil) (fun _ _ _ _ _ => (pe_tup (pa_cons (pv 1) (pa_cons pe_bl pa_nil))))) pa_nil)) pa_nil)) pa_nil)) pa_nil)))
    pss_nil), runD fun B ds d hR D hD => ?_⟩
  obtain ⟨ls, rfl, hl, rfl⟩ := hR
  refine q_ret (d := eLots (ordL ls)) (ed_cb (ea_cons (ed_L (el_is (ds := (ordL ls).map eLot) (el_sortK (enc := eLot) (kf := kL) (l := dedup ls) (ed_L (el_listDict (P := P) (w := w) (ed_L (el_lcT' (enc := eLot) (f := fun b => .tuple [eLot b, .bool true]) (ed_var rfl) (by omega) (fun a _ => nl_Lot a) (fun a _ => ed_tup (ea_cons (ed_var rfl) (ea_cons ed_bl ea_nil)) (by simp)) fun a _ => by simp [noL, noLs, nl_Lot])))) ?_ ?_ ?_ ?_ ?_) ?_)) ea_nil) rc_tupL) fun v H' e _ h => hD v H' e h
  · exact fun a ha => ⟨a, rfl, kL_L a⟩
  · simp only [kL_L]; exact alike_keys _ id
  · simp only [kL_L]; exact sortable_keys _ id
  · exact fun a _ => by rw [kL_L]; exact nl_Key _
  · exact fun a _ => by rw [kL_L]; exact depth_key _
  · unfold ordL
    rw [← show (dedup ls).mergeSort rankLe = isort rankLe (dedup ls) from msortL _]
    congr 1
    congr 1
    funext a b
    exact key_le (lf := id) (kL_L a) (kL_L b)
end
end Fk
/-! the walks, 4: trees by bits -/
namespace Fk
open PySem PySem.Spec PyProof.Rows L2
def whole (n : Nat) : List Nat := if 1 < n then [(1 <<< n) - 1] else []
def treeB (n : Nat) (some : List Nat) : List Lot := (ordB (whole n ++ some)).map lotOf
def nestB (ns : List Lot) : List Nat := ns.map bitsOf
theorem whole_lt {n : Nat} (h : n ≤ 10) : ∀ b ∈ whole n, b < 1024 := by
  intro b hb
  unfold whole at hb
  split at hb
  · rw [List.mem_singleton.mp hb, Nat.one_shiftLeft]
    have : 2 ^ n ≤ 2 ^ 10 := Nat.pow_le_pow_right (by decide) h
    omega
  · cases hb
theorem whole_len (n : Nat) : (whole n).length ≤ 1 := by unfold whole; split <;> simp
section
variable {P : Program} {w : World} {K : PySem.W.Frag} {mg : Str → Option Value} {base : Heap}
/-! least_leaf -/
def R_least_leaf (ds : List PyData) (d : PyData) : Prop := ∃ b : Nat, ds = [eI b] ∧ b < 1024 ∧ 0 < b ∧ d = eI (lowB b)
abbrev sp_least_leaf (K : PySem.W.Frag) : Sp := spD K R_least_leaf
theorem len_least_leaf : ∀ ds d, R_least_leaf ds d → ds.length = 1 := by rintro ds d ⟨l, rfl, _⟩; rfl
theorem low_is : ∀ b : Nat, b < 1024 → 0 < b → (Builtin.Int.intBits (Builtin.bitAnd (b : Int) (-(b : Int))) : Int) - 1 = (lowB b : Int) := by decide +kernel
-- slots: bits:0  level 1
abbrev N_least_leaf : List Str := ["bits"]
theorem sc_least_leaf : FnScope N_least_leaf ["bits"] (defScope s_least_leaf) := ⟨rfl, rfl, rfl, by decide +kernel, rfl, by decide +kernel, by decide +kernel⟩
theorem bd_least_leaf : BindsBy "least_leaf" s_least_leaf ["bits"] := fun _ _ _ _ _ _ us hl => match us, hl with | [_], _ => rfl
theorem ok_least_leaf (F : Here K mg "least_leaf" s_least_leaf) (bs : Bs mg) : OkP P w K mg base 1 "least_leaf" ["bits"] (sp_least_leaf K) := by
  have nd := sc_least_leaf.nd
  refine mkP F sc_least_leaf bd_least_leaf (lenD len_least_leaf) fun f cdv A outer s H E hr => ⟨_, (pss_cons (ps_ret (pe_op op_sub (pe_bits (pe_op op_and (pv 0) (pe_un un_neg (pv 0)))) pe_int))
    pss_nil), runD fun B ds d hR D hD => ?_⟩
  obtain ⟨b, rfl, hb, h0, rfl⟩ := hR
  exact q_ret (d := eI (lowB b)) (ed_is (ed_op (ed_bits (ed_op (ed_var rfl) (ed_un (ed_var rfl) ru_neg) (rd_I0 fun _ => .int _))) ed_int rd_sub) (congrArg PyData.int (low_is b hb h0))) fun v H' e _ h => hD v H' e h
/-! tree_of_bits -/
def R_tree_of_bits (ds : List PyData) (d : PyData) : Prop := ∃ (n : Nat) (bs : List Nat), ds = [eI n, .list (bs.map eI)] ∧ n ≤ 10 ∧ (∀ b ∈ bs, b < 1024) ∧ bs.length ≤ 900 ∧ d = eTree n (treeB n bs)
abbrev sp_tree_of_bits (K : PySem.W.Frag) : Sp := spD K R_tree_of_bits
theorem len_tree_of_bits : ∀ ds d, R_tree_of_bits ds d → ds.length = 2 := by rintro ds d ⟨n, l, rfl, _⟩; rfl
-- slots: size:0 some:1 whole:2 bits:3  level 6
abbrev N_tree_of_bits : List Str := ["size", "some", "whole", "bits"]
theorem sc_tree_of_bits : FnScope N_tree_of_bits ["size", "some"] (defScope s_tree_of_bits) := ⟨rfl, rfl, rfl, by decide +kernel, rfl, by decide +kernel, by decide +kernel⟩
theorem bd_tree_of_bits : BindsBy "tree_of_bits" s_tree_of_bits ["size", "some"] := fun _ _ _ _ _ _ us hl => match us, hl with | [_, _], _ => rfl
theorem ok_tree_of_bits (F : Here K mg "tree_of_bits" s_tree_of_bits) (bs : Bs mg) (h_all_bits : Ok P w K mg base 1 "all_bits" ["size"] (sp_all_bits K)) (h_lot_of : OkP P w K mg base 1 "lot_of" ["bits"] (sp_lot_of K)) (h_ordered_bits : Ok P w K mg base 5 "ordered_bits" ["some"] (sp_ordered_bits K)) : Ok P w K mg base 6 "tree_of_bits" ["size", "some"] (sp_tree_of_bits K) := by
  have nd := sc_tree_of_bits.nd
  refine mkG F sc_tree_of_bits bd_tree_of_bits (lenD len_tree_of_bits) fun f cdv A outer s H E hg hr => ⟨_, (pss_cons (ps_set (i := 2) nd rfl (Or.inl rfl) (pe_ifExp (pt_cmpR op_gt (pv 0) pe_int (nomark _)) (pe_lst (pa_cons (pe_callN h_all_bits hg (hr.mono (by decide)) rfl (pa_cons (pv 0) pa_nil)) pa_nil)) (pe_lst pa_nil)))
    (pss_cons (ps_ret (pe_tup (pa_cons (pv 0) (pa_cons (pe_callTy (cr_tupk K rfl) rfl bs.tuple boot_tuple (pa_cons (pe_lc (own := [("bits", 3)]) rfl nd (pi_lk K rfl (pe_callN h_ordered_bits hg hr rfl (pa_cons (pe_op op_cat (pv 2) (pe_callTy (cr_listk K rfl) rfl bs.list boot_list (pa_cons (pv 1) pa_nil))) pa_nil))) (blk1 rfl rfl rfl rfl rfl) (fun _ _ _ _ _ => pg_name (i := 3) nd rfl (by first | exact Or.inl rfl | exact Or.inr rfl)) (fun _ _ _ _ _ => pts_nil) (fun _ _ _ _ _ => (pe_callN h_lot_of.ok hg (hr.mono (by decide)) rfl (pa_cons (pv 3) pa_nil)))) pa_nil)) pa_nil))))
    pss_nil)), runD fun B ds d hR D hD => ?_⟩
  obtain ⟨n, bs', rfl, hn, hb, hl, rfl⟩ := hR
  have hw := whole_len n
  refine q_asgL (ds := (whole n).map eI) (el_if (b := decide (1 < n)) (et_is (et_test (ed_op (ed_var rfl) ed_int rd_gt)) (dlt 1 n)) (fun h => ?_) (fun h => ?_)) (nls_I _) fun p np => ?_
  · rw [show whole n = [(1 <<< n) - 1] from if_pos (of_decide_eq_true h)]
    exact el_lst (ea_cons (ed_call (ea_cons (ed_var rfl) ea_nil) ⟨n, rfl, by omega, rfl⟩) ea_nil) (by simp)
  · rw [show whole n = [] from if_neg (of_decide_eq_false h)]
    exact el_lst ea_nil (by simp)
  refine q_ret (d := eTree n (treeB n bs')) (ed_tup (ea_cons (ed_var rfl) (ea_cons (d := eLots (treeB n bs')) (ed_cb (ea_cons (ed_L (el_is (ds := (treeB n bs').map eLot) (el_lcL' (xs := ordB (whole n ++ bs')) (enc := eI) (f := fun b => eLot (lotOf b)) (ed_L (el_call (ea_cons (ed_L (el_is (ds := (whole n ++ bs').map eI) (el_catVL (ds := (whole n).map eI) (es := bs'.map eI) (p := p) rfl (el_cb (ea_cons (ed_var rfl) ea_nil) rl_listL) (by simp; omega)) (by rw [List.map_append]))) ea_nil) ⟨whole n ++ bs', rfl, ?_, ?_, rfl⟩)) ?_ (fun _ _ => rfl) (fun a ha => ed_call (ea_cons (ed_var rfl) ea_nil) ⟨a, rfl, ?_, rfl⟩) fun _ _ => nl_Lot _) ?_)) ea_nil) rc_tupL) ea_nil)) (by simp)) fun v H' e _ h => hD v H' e h
  · intro b hb'
    rcases List.mem_append.mp hb' with h | h
    · exact whole_lt hn b h
    · exact hb b h
  · simp; omega
  · have := ordB_len (whole n ++ bs')
    simp at this; omega
  · have ha := ordB_mem.mp ha
    rcases List.mem_append.mp ha with h | h
    · exact whole_lt hn a h
    · exact hb a h
  · unfold treeB
    rw [List.map_map]; rfl
/-! nest_bits -/
def R_nest_bits (ds : List PyData) (es : List PyData) : Prop := ∃ (n : Nat) (ns : List Lot), ds = [eTree n ns] ∧ Lt10s ns ∧ ns.length ≤ 1000 ∧ es = (nestB ns).map eI
abbrev sp_nest_bits (K : PySem.W.Frag) : Sp := spL K R_nest_bits
theorem len_nest_bits : ∀ ds d, R_nest_bits ds d → ds.length = 1 := by rintro ds d ⟨n, l, rfl, _⟩; rfl
theorem ix1 {a b : PyData} : atI [a, b] 1 = some b := rfl
theorem ix0 {a b : PyData} : atI [a, b] 0 = some a := rfl
-- slots: tree:0 nest:1  level 2
abbrev N_nest_bits : List Str := ["tree", "nest"]
theorem sc_nest_bits : FnScope N_nest_bits ["tree"] (defScope s_nest_bits) := ⟨rfl, rfl, rfl, by decide +kernel, rfl, by decide +kernel, by decide +kernel⟩
theorem bd_nest_bits : BindsBy "nest_bits" s_nest_bits ["tree"] := fun _ _ _ _ _ _ us hl => match us, hl with | [_], _ => rfl
theorem ok_nest_bits (F : Here K mg "nest_bits" s_nest_bits) (bs : Bs mg) (h_bits_of : Ok P w K mg base 1 "bits_of" ["lot"] (sp_bits_of K)) : Ok P w K mg base 2 "nest_bits" ["tree"] (sp_nest_bits K) := by
  have nd := sc_nest_bits.nd
  refine mkG F sc_nest_bits bd_nest_bits (lenL len_nest_bits) fun f cdv A outer s H E hg hr => ⟨_, (pss_cons (ps_ret (pe_lc (own := [("nest", 1)]) rfl nd (pi_tk K rfl (pe_ix (ix_tk K rfl) (pv 0) pe_int (fun _ _ => rfl))) (blk1 rfl rfl rfl rfl rfl) (fun _ _ _ _ _ => pg_name (i := 1) nd rfl (by first | exact Or.inl rfl | exact Or.inr rfl)) (fun _ _ _ _ _ => pts_nil) (fun _ _ _ _ _ => (pe_callN h_bits_of hg hr rfl (pa_cons (pv 1) pa_nil)))))
    pss_nil), runL fun B ds es hR D hD => ?_⟩
  obtain ⟨n, ns, rfl, h10, hl, rfl⟩ := hR
  refine q_retL (ds := (nestB ns).map eI) (el_is (el_lcT' (xs := ns) (enc := eLot) (f := fun l => eI (bitsOf l)) (ed_op (x := eTree n ns) (ed_var rfl) ed_int (rd_ixT (i := 1) (z := eLots ns) ix1)) (by omega) (fun a _ => nl_Lot a) (fun a ha => ed_call (ea_cons (ed_var rfl) ea_nil) ⟨a, rfl, le1000 (h10 a ha), rfl⟩) fun _ _ => rfl) ?_) hD
  unfold nestB
  rw [List.map_map]; rfl
end
end Fk
/-! the walks, 5: parts, forks, places -/
namespace Fk
open PySem PySem.Spec PyProof.Rows L2
def innerB (nests : List Nat) (b : Nat) : List Nat := nests.filter fun o => decide (o ≠ b) && decide (o &&& b = o)
def pstep (st : List Nat × Nat) (own : Nat) : List Nat × Nat := if own &&& st.2 = own then (st.1 ++ [own], st.2 ^^^ own) else st
def pfold (nests : List Nat) (b : Nat) : List Nat × Nat := (innerB nests b).reverse.foldl pstep ([], b)
def partsB0 (nests : List Nat) (b : Nat) : List Nat := (pfold nests b).1 ++ (lotOf (pfold nests b).2).map fun x => 1 <<< x
def lowLe (a b : Nat) : Bool := !decide (lowB b < lowB a)
def partsB (nests : List Nat) (b : Nat) : List Nat := isort lowLe (partsB0 nests b)
def forkB (nests : List Nat) (b : Nat) : Nat := if isTip b = true then b else (nests.find? fun o => decide (o &&& b = b)).getD b
/-- what is asked of the nests at b -/
def PartsOk (nests : List Nat) (b : Nat) : Prop := b < 1024 ∧ (∀ o ∈ nests, o < 1024 ∧ 0 < o) ∧ ((partsB0 nests b).map lowB).Nodup
theorem pstep_lt {st : List Nat × Nat} {own : Nat} (h : st.2 < 1024) (ho : own < 1024) : (pstep st own).2 < 1024 := by
  unfold pstep
  split
  · exact Nat.xor_lt_two_pow (n := 10) h ho
  · exact h
theorem fold_lt : ∀ {l : List Nat} {st : List Nat × Nat}, st.2 < 1024 → (∀ o ∈ l, o < 1024) → (l.foldl pstep st).2 < 1024
  | [], _, h, _ => h
  | o :: l, st, h, hl => fold_lt (l := l) (pstep_lt h (hl o List.mem_cons_self)) fun x hx => hl x (List.mem_cons_of_mem _ hx)
theorem fold_mem : ∀ {l : List Nat} {st : List Nat × Nat} {x : Nat}, x ∈ (l.foldl pstep st).1 → x ∈ st.1 ∨ x ∈ l
  | [], _, _, h => .inl h
  | o :: l, st, x, h => by
    rcases fold_mem (l := l) h with h | h
    · unfold pstep at h
      split at h
      · rcases List.mem_append.mp h with h | h
        · exact .inl h
        · exact .inr (by rw [List.mem_singleton.mp h]; exact List.mem_cons_self)
      · exact .inl h
    · exact .inr (List.mem_cons_of_mem _ h)
theorem fold_len : ∀ {l : List Nat} {st : List Nat × Nat}, (l.foldl pstep st).1.length ≤ st.1.length + l.length
  | [], _ => by simp
  | o :: l, st => by
    have h1 := fold_len (l := l) (st := pstep st o)
    have h2 : (pstep st o).1.length ≤ st.1.length + 1 := by
      unfold pstep
      split <;> simp
    rw [List.foldl_cons, List.length_cons]; omega
theorem inner_mem {nests : List Nat} {b o : Nat} (h : o ∈ innerB nests b) : o ∈ nests := (List.mem_filter.mp h).1
theorem parts0_ok {nests : List Nat} {b : Nat} (h : PartsOk nests b) : ∀ x ∈ partsB0 nests b, x < 1024 ∧ 0 < x := by
  intro x hx
  unfold partsB0 at hx
  rcases List.mem_append.mp hx with hx | hx
  · rcases fold_mem hx with hx | hx
    · cases hx
    · exact h.2.1 x (inner_mem (List.mem_reverse.mp hx))
  · obtain ⟨y, hy, rfl⟩ := List.mem_map.mp hx
    have := lotOf_lt hy
    rw [Nat.one_shiftLeft]
    exact ⟨by have : 2 ^ y < 2 ^ 10 := Nat.pow_lt_pow_right (by decide) this; omega, Nat.two_pow_pos y⟩
theorem msortLow {l : List Nat} (h : (l.map lowB).Nodup) : l.mergeSort lowLe = isort lowLe l := msort_is (r := lowLe) (fun a b c h1 h2 => by unfold lowLe at *; simp at *; omega) (fun a b => by unfold lowLe; simp; omega) l fun a ha b hb x y => by
  unfold lowLe at x y
  have e : lowB a = lowB b := by simp at x y; omega
  obtain ⟨i, hi⟩ := List.getElem?_of_mem ha
  obtain ⟨j, hj⟩ := List.getElem?_of_mem hb
  have h1 : (l.map lowB)[i]? = some (lowB a) := by rw [List.getElem?_map, hi]; rfl
  have h2 : (l.map lowB)[j]? = some (lowB a) := by rw [List.getElem?_map, hj, e]; rfl
  have : i = j := (List.getElem?_inj (List.getElem?_eq_some_iff.mp h1).1 h).mp (h1.trans h2.symm)
  rw [this, hj] at hi
  exact (Option.some.inj hi).symm
section
variable {P : Program} {w : World} {K : PySem.W.Frag} {mg : Str → Option Value} {base : Heap}
/-! parts_of_bits -/
def R_parts_of_bits (ds : List PyData) (es : List PyData) : Prop := ∃ (nests : List Nat) (b : Nat), ds = [.list (nests.map eI), eI b] ∧ nests.length ≤ 1000 ∧ PartsOk nests b ∧ es = (partsB nests b).map eI
abbrev sp_parts_of_bits (K : PySem.W.Frag) : Sp := spL K R_parts_of_bits
theorem len_parts_of_bits : ∀ ds d, R_parts_of_bits ds d → ds.length = 2 := by rintro ds d ⟨n, l, rfl, _⟩; rfl
def kLow : PyData → PyData
  | .int i => eI (lowB i.toNat)
  | d => d
theorem kLow_I (b : Nat) : kLow (eI b) = eI (lowB b) := rfl
theorem low_le (a b : Nat) : PySem.W.dataLe false kLow (eI a) (eI b) = lowLe a b := by
  show (!PySem.W.dataLt (kLow (eI b)) (kLow (eI a))) = _
  rw [kLow_I, kLow_I]
  unfold eI lowLe
  rw [PySem.W.dataLt_int, dlt]
-- slots: nests:0 bits:1c inner:2 own:3 found:4 left:5 leaf:6  level 4
abbrev N_parts_of_bits : List Str := ["nests", "bits", "inner", "own", "found", "left", "leaf"]
theorem sc_parts_of_bits : FnScope N_parts_of_bits ["nests", "bits"] (defScope s_parts_of_bits) := ⟨rfl, rfl, rfl, by decide +kernel, rfl, by decide +kernel, by decide +kernel⟩
theorem bd_parts_of_bits : BindsBy "parts_of_bits" s_parts_of_bits ["nests", "bits"] := fun _ _ _ _ _ _ us hl => match us, hl with | [_, _], _ => rfl
theorem ok_parts_of_bits (F : Here K mg "parts_of_bits" s_parts_of_bits) (bs : Bs mg) (h_least_leaf : OkP P w K mg base 1 "least_leaf" ["bits"] (sp_least_leaf K)) (h_lot_of : OkP P w K mg base 1 "lot_of" ["bits"] (sp_lot_of K)) : Ok P w K mg base 4 "parts_of_bits" ["nests", "bits"] (sp_parts_of_bits K) := by
  have nd := sc_parts_of_bits.nd
  refine mkG F sc_parts_of_bits bd_parts_of_bits (lenL len_parts_of_bits) fun f cdv A outer s H E hg hr => ⟨_, (pss_cons (ps_setLc (own := [("own", 3)]) (i := 2) rfl nd rfl rfl rfl (pi_lk K rfl (pv 0)) (blk1 rfl rfl rfl rfl rfl) (fun _ _ _ _ _ => pg_name (i := 3) nd rfl (by first | exact Or.inl rfl | exact Or.inr rfl)) (fun _ _ _ _ _ => pts_one (PW.pt (pw_and (pt_cmpR (op_nek K rfl hr.units) (pv 3) (pv 1) (nomark _)) (pw_and1 (pt_cmpR (op_eqk K rfl hr.units) (pe_op op_and (pv 3) (pv 1)) (pv 3) (nomark _)))))) (fun _ _ _ _ _ => (pv 3)))
    (pss_cons (ps_par (i := 4) (j := 5) rfl nd rfl rfl (by decide) rfl rfl (pa_cons (pe_lst pa_nil) (pa_cons (pv 1) pa_nil)) rfl)
    (pss_cons (ps_for PassesOwn.never rfl (pi_lk K rfl (pe_revL (pv 2))) (pg_name (i := 3) nd rfl (Or.inl rfl)) (pss_cons (ps_if (pt_cmpR (op_eqk K rfl hr.units) (pe_op op_and (pv 3) (pv 5)) (pv 3) (nomark _)) (pss_cons (ps_expr (pe_bm PySem.F.plainAttrs_list PySem.F.slot_list_append PySem.F.type_list_append mt_append (pv 4) (pa_cons (pv 3) pa_nil)))
    (pss_cons (ps_set (i := 5) nd rfl (Or.inl rfl) (pe_op op_xor (pv 5) (pv 3)))
    pss_nil)) pss_nil)
    pss_nil))
    (pss_cons (ps_expr (pe_bm PySem.F.plainAttrs_list PySem.F.slot_list_extend PySem.F.type_list_extend mt_extend (pv 4) (pa_cons (pe_lc (own := [("leaf", 6)]) rfl nd (pi_tk K rfl (pe_callN h_lot_of.ok hg (hr.mono (by decide)) rfl (pa_cons (pv 5) pa_nil))) (blk1 rfl rfl rfl rfl rfl) (fun _ _ _ _ _ => pg_name (i := 6) nd rfl (by first | exact Or.inl rfl | exact Or.inr rfl)) (fun _ _ _ _ _ => pts_nil) (fun _ _ _ _ _ => (pe_op op_shl pe_int (pv 6)))) pa_nil)))
    (pss_cons (ps_ret (pe_sortK h_least_leaf (hr.mono (by decide)) rfl bs.sorted rfl (pa_cons (pv 4) pa_nil)))
    pss_nil))))), runL fun B ds es hR D hD => ?_⟩
  obtain ⟨nests, b, rfl, hl, hok, rfl⟩ := hR
  obtain ⟨hb, hn, hnd⟩ := id hok
  refine q_asgL (ds := (innerB nests b).map eI) (el_is (el_lcL (xs := nests) (enc := eI) (keep := fun o => decide (o ≠ b) && decide (o &&& b = o)) (f := eI) (ed_var rfl) (by omega) (fun _ _ => rfl) (fun a _ => et_and (et_is (et_test (ed_op (ed_var rfl) (ed_var rfl) rd_neI)) ?_) fun _ => et_is (et_test (ed_op (ed_op (ed_var rfl) (ed_var rfl) rd_and) (ed_var rfl) rd_eqI)) (deq _ _)) (fun a _ _ => ed_var rfl) fun _ _ _ => rfl) rfl) (nls_I _) fun p np => ?_
  · rw [deq]; by_cases h : a = b <;> simp [h]
  refine q_parLD (ds := []) (d := eI b) (el_lst ea_nil (by simp)) (ed_var rfl) rfl rfl fun q nq => ?_
  have pq : p ≠ q := nq.a p (by simp [adrs, startS])
  have hil : (innerB nests b).length ≤ 1000 := Nat.le_trans (List.length_filter_le _ _) hl
  have hin : ∀ o ∈ (innerB nests b).reverse, o < 1024 := fun o ho => (hn o (inner_mem (List.mem_reverse.mp ho))).1
  refine q_forN (xs := (innerB nests b).reverse) (enc := eI) (ρn := fun ρ a => ρ.set 3 (.d (eI a))) (el_is (el_rev (ed_varL rfl)) (by rw [List.map_reverse])) (fun _ _ => rfl) (fun i ρ => ∃ s, ρ = [.d (.list (nests.map eI)), .d (eI b), .l p ((innerB nests b).map eI), s, .l q ((((innerB nests b).reverse.take i).foldl pstep ([], b)).1.map eI), .d (eI (((innerB nests b).reverse.take i).foldl pstep ([], b)).2), .un]) ⟨.un, rfl⟩ (fun S' Z' ρ' a _ => gt_name rfl) (fun r nr S' Z' zk' hS1 hS2 hZ i a ρ' ha hp => ?_) fun ρ' hp => ?_
  · obtain ⟨s, rfl⟩ := hp
    have nqS : ¬ S' q := fun h => by
      rcases hS1 q h with h | h
      · exact nq.s h
      · exact nr.a q (by show q ∈ [p, q]; simp) h
    have et : ((innerB nests b).reverse.take (i + 1)).foldl pstep ([], b) = pstep (((innerB nests b).reverse.take i).foldl pstep ([], b)) a := by
      rw [List.take_add_one, ha, List.foldl_append]; rfl
    have hlen : (((innerB nests b).reverse.take i).foldl pstep ([], b)).1.length ≤ 1000 := by
      have h1 := fold_len (l := (innerB nests b).reverse.take i) (st := ([], b))
      rw [List.length_take, List.length_reverse] at h1
      simp at h1
      omega
    generalize ((innerB nests b).reverse.take i).foldl pstep ([], b) = st at et hlen ⊢
    refine q_if (b := decide (a &&& st.2 = a)) (et_is (et_test (ed_op (ed_op (ed_var rfl) (ed_var rfl) rd_and) (ed_var rfl) rd_eqI)) (deq _ _)) (fun h => ?_) (fun h => ?_)
    · have hc := of_decide_eq_true h
      refine q_app (p := q) (ds := st.1.map eI) rfl (ed_var rfl) rfl nq.b nqS (by simp; omega) (by simp [putL, pq]; rfl) ?_
      refine q_asg (d := eI (st.2 ^^^ a)) (ed_op (ed_var rfl) (ed_var rfl) rd_xor) rfl ?_
      refine q_next (q_lf ⟨.d (eI a), ?_⟩)
      rw [et, show pstep st a = (st.1 ++ [a], st.2 ^^^ a) from if_pos hc, List.map_append]
      rfl
    · refine q_next (q_next (q_lf ⟨.d (eI a), ?_⟩))
      rw [et, show pstep st a = st from if_neg (of_decide_eq_false h)]
      rfl
  · obtain ⟨s, rfl⟩ := hp
    rw [List.take_length]
    have hst : (pfold nests b).2 < 1024 := fold_lt hb hin
    have hlen : (pfold nests b).1.length ≤ 1000 := by
      have h1 : (pfold nests b).1.length ≤ 0 + (innerB nests b).reverse.length := fold_len (l := (innerB nests b).reverse) (st := ([], b))
      rw [List.length_reverse] at h1
      omega
    show TrR K B S0 Z0 _ [_, _, _, _, .l q ((pfold nests b).1.map eI), .d (eI (pfold nests b).2), _] D
    have h10 := lotOf_len (pfold nests b).2
    refine q_ext (p := q) (ds := (pfold nests b).1.map eI) (es := (lotOf (pfold nests b).2).map fun x => eI (1 <<< x)) rfl (el_lcT' (xs := lotOf (pfold nests b).2) (enc := eI) (f := fun x => eI (1 <<< x)) (ed_call (ea_cons (ed_var rfl) ea_nil) ⟨_, rfl, hst, rfl⟩) (by omega) (fun _ _ => rfl) (fun a ha => ed_op (x := eI 1) ed_int (ed_var rfl) (rd_shl ⟨by decide, by have := lotOf_lt ha; omega⟩)) fun _ _ => rfl) ?_ nq.b nq.s (by simp; omega) (by simp [putL, pq]; rfl) ?_
    · exact noLs_map fun _ _ => rfl
    have e0 : (pfold nests b).1.map eI ++ (lotOf (pfold nests b).2).map (fun x => eI (1 <<< x)) = (partsB0 nests b).map eI := by
      unfold partsB0
      rw [List.map_append, List.map_map]; rfl
    rw [e0]
    refine q_retL (ds := (partsB nests b).map eI) (el_is (el_sortK (enc := eI) (kf := kLow) (l := partsB0 nests b) (ed_varL rfl) ?_ ?_ ?_ ?_ ?_) ?_) hD
    · exact fun a ha => ⟨a, rfl, (parts0_ok hok a ha).1, (parts0_ok hok a ha).2, rfl⟩
    · intro d hd d' hd'
      obtain ⟨x, _, rfl⟩ := List.mem_map.mp hd
      obtain ⟨y, _, rfl⟩ := List.mem_map.mp hd'
      rfl
    · refine .inr fun d hd => ?_
      obtain ⟨x, _, rfl⟩ := List.mem_map.mp hd
      exact ⟨(fun z => nomatch z), (fun xs z => nomatch z)⟩
    · exact fun _ _ => rfl
    · exact fun a _ => by rw [kLow_I]; simp [eI, PyData.depth]
    · unfold partsB
      rw [← msortLow hnd]
      congr 1
      congr 1
      funext a b
      exact low_le a b
end
end Fk
/-! the walks, 6 -/
namespace Fk
open PySem PySem.Spec PyProof.Rows L2
def bitsAtGo (b : Nat) : Nat → Nat → Lot → Nat
  | _, f, [] => f
  | i, f, x :: l => bitsAtGo b (i + 1) (f ||| (((b >>> x) &&& 1) <<< i)) l
def bitsAt (b : Nat) (l : Lot) : Nat := bitsAtGo b 0 0 l
def atL (ns : List Lot) (l : Lot) : List Lot := treeB l.length (((nestB ns).map fun b => bitsAt b l).filter fun b => decide (b ≠ 0) && !isTip b)
def lessOne (n leaf : Nat) : Lot := lotOf (((1 <<< n) - 1) ^^^ (1 <<< leaf))
def withoutL (n : Nat) (ns : List Lot) (leaf : Nat) : List Lot := atL ns (lessOne n leaf)
def partsL (ns : List Lot) (nest : Lot) : List Lot := (partsB (nestB ns) (bitsOf nest)).map lotOf
def forkL (ns : List Lot) (lot : Lot) : Lot := lotOf (forkB (nestB ns) (bitsOf lot))
theorem nestB_len (ns : List Lot) : (nestB ns).length = ns.length := by simp [nestB]
theorem nestB_lt {ns : List Lot} (h : Lt10s ns) : ∀ b ∈ nestB ns, b < 1024 := fun b hb => by
  obtain ⟨l, hl, rfl⟩ := List.mem_map.mp hb
  exact bitsOf_lt (h l hl)
theorem bitsAt_lt {b : Nat} : ∀ {l : Lot} {i f : Nat}, i + l.length ≤ 10 → f < 1024 → bitsAtGo b i f l < 1024
  | [], _, _, _, h => h
  | x :: l, i, f, hi, hf => by
    rw [List.length_cons] at hi
    refine bitsAt_lt (l := l) (by omega) (Nat.or_lt_two_pow (n := 10) hf ?_)
    rw [Nat.shiftLeft_eq, Nat.and_one_is_mod]
    have h1 : (b >>> x) % 2 ≤ 1 := by omega
    have h2 : 2 ^ i ≤ 2 ^ 9 := Nat.pow_le_pow_right (by decide) (by omega)
    calc (b >>> x) % 2 * 2 ^ i ≤ 1 * 2 ^ 9 := Nat.mul_le_mul h1 h2
      _ < 2 ^ 10 := by decide
theorem parts_lt {nests : List Nat} {b : Nat} (h : PartsOk nests b) : ∀ x ∈ partsB nests b, x < 1024 := fun x hx => (parts0_ok h x ((isort_perm _ _).mem_iff.mp hx)).1
theorem parts_len {nests : List Nat} {b : Nat} : (partsB nests b).length ≤ nests.length + 10 := by
  have e : (partsB nests b).length = (partsB0 nests b).length := (isort_perm _ _).length_eq
  rw [e]
  unfold partsB0
  have h1 : (pfold nests b).1.length ≤ 0 + (innerB nests b).reverse.length := fold_len
  have h2 := lotOf_len (pfold nests b).2
  have h3 : (innerB nests b).length ≤ nests.length := List.length_filter_le _ _
  rw [List.length_reverse] at h1
  rw [List.length_append, List.length_map]
  omega
theorem shaped_of_small {d : PyData} (h1 : smallI d = true) (h2 : d.depth ≤ 60) : SeqAt.shaped d = true := by
  show (d.canLay0 && decide (d.depth ≤ 64)) = true
  rw [(smallI_ok d h1).1, Bool.true_and]
  exact decide_eq_true (by omega)
theorem depth_I : ∀ l : List Nat, PyData.depthAll (l.map eI) = 0
  | [] => rfl
  | _ :: l => by simp [PyData.depthAll, eI, PyData.depth, depth_I l]
theorem depth_lot (l : Lot) : (eLot l).depth = 1 := by simp [eLot, PyData.depth, depth_I]
theorem depth_lots : ∀ l : List Lot, PyData.depthAll (l.map eLot) ≤ 1
  | [] => by simp [PyData.depthAll]
  | a :: l => by
    have := depth_lots l
    rw [List.map_cons, PyData.depthAll, depth_lot]
    omega
theorem small_lot {l : Lot} (h : Lt10 l) : smallI (eLot l) = true := by
  show smallIs (l.map eI) = true
  rw [smallIs_iff]
  intro d hd
  obtain ⟨x, hx, rfl⟩ := List.mem_map.mp hd
  have := h x hx
  simp [eI, smallI]; omega
theorem small_lots {ls : List Lot} (h : Lt10s ls) : smallIs (ls.map eLot) = true := by
  rw [smallIs_iff]
  intro d hd
  obtain ⟨x, hx, rfl⟩ := List.mem_map.mp hd
  exact small_lot (h x hx)
theorem sh_lot {l : Lot} (h : Lt10 l) : SeqAt.shaped (eLot l) = true := shaped_of_small (small_lot h) (by rw [depth_lot]; omega)
theorem sh_lots {ls : List Lot} (h : Lt10s ls) : SeqAt.shaped (.list (ls.map eLot)) = true := shaped_of_small (small_lots h) (by have := depth_lots ls; simp [PyData.depth]; omega)
theorem sh_I (n : Nat) : SeqAt.shaped (eI n) = true := shaped_int _
theorem sh_Is (l : List Nat) : SeqAt.shaped (.list (l.map eI)) = true := by
  have h1 : ∀ l : List Nat, PyData.canLayAll0 (l.map eI) = true := by
    intro l
    induction l with
    | nil => simp [PyData.canLayAll0]
    | cons x l ih => simp [PyData.canLayAll0, eI, PyData.canLay0]; simpa [eI] using ih
  show (PyData.canLay0 (.list (l.map eI)) && decide ((PyData.list (l.map eI)).depth ≤ 64)) = true
  simp [PyData.canLay0, h1, PyData.depth, depth_I]
theorem eqvs_I : ∀ a b : List Nat, PyData.eqvAll (a.map eI) (b.map eI) = decide (a = b)
  | [], [] => by simp [PyData.eqvAll]
  | [], _ :: _ => by simp [PyData.eqvAll]
  | _ :: _, [] => by simp [PyData.eqvAll]
  | x :: a, y :: b => by
    rw [List.map_cons, List.map_cons, PyData.eqvAll, eqvs_I a b]
    have e : PyData.eqv (eI x) (eI y) = decide (x = y) := by
      simp only [eI, PyData.eqv]
      rw [Bool.beq_eq_decide_eq]
      exact deq x y
    rw [e]
    by_cases h : x = y <;> simp [h]
theorem eqv_lot (a b : Lot) : PyData.eqv (eLot a) (eLot b) = decide (a = b) := by simp only [eLot, PyData.eqv]; exact eqvs_I a b
theorem eqv_I (a b : Nat) : PyData.eqv (eI a) (eI b) = decide (a = b) := by
  simp only [eI, PyData.eqv]
  rw [Bool.beq_eq_decide_eq]
  exact deq a b
theorem any_lot (l : Lot) (ls : List Lot) : ((ls.map eLot).any fun z => PyData.eqv z (eLot l)) = decide (l ∈ ls) := by
  induction ls with
  | nil => rfl
  | cons x ls ih =>
    rw [List.map_cons, List.any_cons, ih, eqv_lot]
    by_cases h : x = l
    · simp [h]
    · have : ¬ l = x := fun e => h e.symm
      simp [h, this]
theorem any_I (n : Nat) (l : List Nat) : ((l.map eI).any fun z => PyData.eqv z (eI n)) = decide (n ∈ l) := by
  induction l with
  | nil => rfl
  | cons x ls ih =>
    rw [List.map_cons, List.any_cons, ih, eqv_I]
    by_cases h : x = n
    · simp [h]
    · have : ¬ n = x := fun e => h e.symm
      simp [h, this]
section
variable {P : Program} {w : World} {K : PySem.W.Frag} {mg : Str → Option Value} {base : Heap} {B : Hp} {ρ : List Sl} {te : TE}
/-- tree[0], tree[1] -/
theorem ed_size {n : Nat} {ns : List Lot} (h : EvD K B te ρ (eTree n ns)) : EvD K B (tOp (rIxT K) te (tC (.int 0))) ρ (eI n) := ed_op h ed_int (rd_ixT (ds := [eI n, eLots ns]) (i := 0) ix0)
theorem ed_nests {n : Nat} {ns : List Lot} (h : EvD K B te ρ (eTree n ns)) : EvD K B (tOp (rIxT K) te (tC (.int 1))) ρ (eLots ns) := ed_op h ed_int (rd_ixT (ds := [eI n, eLots ns]) (i := 1) ix1)
/-! fork_bits -/
def R_fork_bits (ds : List PyData) (d : PyData) : Prop := ∃ (nests : List Nat) (b : Nat), ds = [.list (nests.map eI), eI b] ∧ d = eI (forkB nests b)
abbrev sp_fork_bits (K : PySem.W.Frag) : Sp := spD K R_fork_bits
theorem len_fork_bits : ∀ ds d, R_fork_bits ds d → ds.length = 2 := by rintro ds d ⟨n, l, rfl, _⟩; rfl
-- slots: nests:0 bits:1 own:2  level 2
abbrev N_fork_bits : List Str := ["nests", "bits", "own"]
theorem sc_fork_bits : FnScope N_fork_bits ["nests", "bits"] (defScope s_fork_bits) := ⟨rfl, rfl, rfl, by decide +kernel, rfl, by decide +kernel, by decide +kernel⟩
theorem bd_fork_bits : BindsBy "fork_bits" s_fork_bits ["nests", "bits"] := fun _ _ _ _ _ _ us hl => match us, hl with | [_, _], _ => rfl
theorem ok_fork_bits (F : Here K mg "fork_bits" s_fork_bits) (bs : Bs mg) (h_is_tip : Ok P w K mg base 1 "is_tip" ["bits"] (sp_is_tip K)) : Ok P w K mg base 2 "fork_bits" ["nests", "bits"] (sp_fork_bits K) := by
  have nd := sc_fork_bits.nd
  refine mkG F sc_fork_bits bd_fork_bits (lenD len_fork_bits) fun f cdv A outer s H E hg hr => ⟨_, (pss_cons (ps_if (pt_val (pe_callN h_is_tip hg hr rfl (pa_cons (pv 1) pa_nil))) (pss_cons (ps_ret (pv 1))
    pss_nil) pss_nil)
    (pss_cons (ps_for PassesOwn.never rfl (pi_lk K rfl (pv 0)) (pg_name (i := 2) nd rfl (Or.inl rfl)) (pss_cons (ps_if (pt_cmpR (op_eqk K rfl hr.units) (pe_op op_and (pv 2) (pv 1)) (pv 1) (nomark _)) (pss_cons (ps_ret (pv 2))
    pss_nil) pss_nil)
    pss_nil))
    (pss_cons (ps_ret (pv 1))
    pss_nil))), runD fun B ds d hR D hD => ?_⟩
  obtain ⟨nests, b, rfl, rfl⟩ := hR
  have ret : ∀ {D2 : Ends} {ρ : List Sl} {te : TE} {S : Addr → Prop} {Z : Hp → Prop} [ZK S Z] {tz : TS}, (∀ v H', D2.rt v H' = D.rt v H') → EvD K B te ρ (eI (forkB nests b)) → TrR K B S Z (tSeq (tRet te) tz) ρ D2 := fun {D2 ρ te S Z _ tz} e h => q_ret h fun v H' ex _ hv => by rw [e]; exact hD v H' ex hv
  refine q_if (b := isTip b) (et_B (ed_call (ea_cons (ed_var rfl) ea_nil) ⟨b, rfl, rfl⟩)) (fun h => ?_) (fun h => q_next ?_)
  · refine ret (fun _ _ => rfl) ?_
    rw [show forkB nests b = b from if_pos h]
    exact ed_var rfl
  · have fk : forkB nests b = (nests.find? fun o => decide (o &&& b = b)).getD b := if_neg (by rw [h]; simp)
    refine q_forB (xs := nests) (enc := eI) (i := 0) rfl (fun i ρ => (∃ s, ρ = [.d (.list (nests.map eI)), .d (eI b), s]) ∧ ∀ o ∈ nests.take i, ¬ o &&& b = b) ⟨⟨.un, rfl⟩, by simp⟩ (fun i a ρ' ha hp => ?_) fun ρ' hp => ?_
    · obtain ⟨⟨s, rfl⟩, hn⟩ := hp
      refine q_if (b := decide (a &&& b = b)) (et_is (et_test (ed_op (ed_op (ed_var rfl) (ed_var rfl) rd_and) (ed_var rfl) rd_eqI)) (deq _ _)) (fun hc => ?_) (fun hc => ?_)
      · refine ret (fun _ _ => rfl) ?_
        have hc := of_decide_eq_true hc
        have e : (nests.find? fun o => decide (o &&& b = b)) = some a := by
          obtain ⟨hlt, hget⟩ := List.getElem?_eq_some_iff.mp ha
          have es : nests = nests.take i ++ a :: nests.drop (i + 1) := by
            rw [← hget, List.getElem_cons_drop, List.take_append_drop]
          rw [es, List.find?_append, List.find?_eq_none.mpr fun o ho => by simpa using hn o ho]
          simp [List.find?_cons, hc]
        rw [fk, e]
        exact ed_var rfl
      · refine q_next (q_next (q_lf ⟨⟨.d (eI a), rfl⟩, fun o ho => ?_⟩))
        rw [List.take_add_one, ha] at ho
        rcases List.mem_append.mp ho with ho | ho
        · exact hn o ho
        · have : o = a := by simpa using ho
          rw [this]; exact of_decide_eq_false hc
    · obtain ⟨⟨s, rfl⟩, hn⟩ := hp
      rw [List.take_length] at hn
      refine ret (fun _ _ => rfl) ?_
      rw [fk, List.find?_eq_none.mpr fun o ho => by simpa using hn o ho]
      exact ed_var rfl
/-! parts -/
def R_parts (ds : List PyData) (d : PyData) : Prop := ∃ (n : Nat) (ns : List Lot) (nest : Lot), ds = [eTree n ns, eLot nest] ∧ Lt10s ns ∧ ns.length ≤ 900 ∧ nest ∈ ns ∧ PartsOk (nestB ns) (bitsOf nest) ∧ d = eLots (partsL ns nest)
abbrev sp_parts (K : PySem.W.Frag) : Sp := spD K R_parts
theorem len_parts : ∀ ds d, R_parts ds d → ds.length = 2 := by rintro ds d ⟨n, ns, l, rfl, _⟩; rfl
-- slots: tree:0 nest:1 bits:2  level 5
abbrev N_parts : List Str := ["tree", "nest", "bits"]
theorem sc_parts : FnScope N_parts ["tree", "nest"] (defScope s_parts) := ⟨rfl, rfl, rfl, by decide +kernel, rfl, by decide +kernel, by decide +kernel⟩
theorem bd_parts : BindsBy "parts" s_parts ["tree", "nest"] := fun _ _ _ _ _ _ us hl => match us, hl with | [_, _], _ => rfl
theorem ok_parts (F : Here K mg "parts" s_parts) (bs : Bs mg) (h_bits_of : Ok P w K mg base 1 "bits_of" ["lot"] (sp_bits_of K)) (h_lot_of : OkP P w K mg base 1 "lot_of" ["bits"] (sp_lot_of K)) (h_nest_bits : Ok P w K mg base 2 "nest_bits" ["tree"] (sp_nest_bits K)) (h_parts_of_bits : Ok P w K mg base 4 "parts_of_bits" ["nests", "bits"] (sp_parts_of_bits K)) : Ok P w K mg base 5 "parts" ["tree", "nest"] (sp_parts K) := by
  have nd := sc_parts.nd
  refine mkG F sc_parts bd_parts (lenD len_parts) fun f cdv A outer s H E hg hr => ⟨_, (pss_cons (ps_if (pt_cmpR (op_nik K rfl (hu65 hr)) (pv 1) (pe_ix (ix_tk K rfl) (pv 0) pe_int (fun _ _ => rfl)) (by with_unfolding_all rfl)) pss_never pss_nil)
    (pss_cons (ps_ret (pe_callTy (cr_tupk K rfl) rfl bs.tuple boot_tuple (pa_cons (pe_lc (own := [("bits", 2)]) rfl nd (pi_lk K rfl (pe_callN h_parts_of_bits hg hr rfl (pa_cons (pe_callN h_nest_bits hg (hr.mono (by decide)) rfl (pa_cons (pv 0) pa_nil)) (pa_cons (pe_callN h_bits_of hg (hr.mono (by decide)) rfl (pa_cons (pv 1) pa_nil)) pa_nil)))) (blk1 rfl rfl rfl rfl rfl) (fun _ _ _ _ _ => pg_name (i := 2) nd rfl (by first | exact Or.inl rfl | exact Or.inr rfl)) (fun _ _ _ _ _ => pts_nil) (fun _ _ _ _ _ => (pe_callN h_lot_of.ok hg (hr.mono (by decide)) rfl (pa_cons (pv 2) pa_nil)))) pa_nil)))
    pss_nil)), runD fun B ds d hR D hD => ?_⟩
  obtain ⟨n, ns, nest, rfl, h10, hl, hm, hok, rfl⟩ := hR
  refine q_if (b := false) (et_is (et_test (ed_op (ed_var rfl) (ed_nests (ed_var rfl)) (rd_niT (sh_lot (h10 nest hm)) (sh_lots h10)))) ?_) (fun h => nomatch h) (fun _ => q_next ?_)
  · rw [any_lot, decide_eq_true hm]; rfl
  refine q_ret (d := eLots (partsL ns nest)) (ed_cb (ea_cons (ed_L (el_is (el_lcL' (xs := partsB (nestB ns) (bitsOf nest)) (enc := eI) (f := fun b => eLot (lotOf b)) (ed_L (el_call (ea_cons (ed_L (el_call (ea_cons (ed_var rfl) ea_nil) ⟨n, ns, rfl, h10, by omega, rfl⟩)) (ea_cons (ed_call (ea_cons (ed_var rfl) ea_nil) ⟨nest, rfl, le1000 (h10 nest hm), rfl⟩) ea_nil)) ⟨nestB ns, bitsOf nest, rfl, by rw [nestB_len]; omega, hok, rfl⟩)) ?_ (fun _ _ => rfl) (fun a ha => ed_call (ea_cons (ed_var rfl) ea_nil) ⟨a, rfl, parts_lt hok a ha, rfl⟩) fun _ _ => nl_Lot _) ?_)) ea_nil) rc_tupL) fun v H' e _ h => hD v H' e h
  · have := parts_len (nests := nestB ns) (b := bitsOf nest)
    rw [nestB_len] at this
    omega
  · unfold partsL
    rw [List.map_map]; rfl
/-! fork -/
def R_fork (ds : List PyData) (d : PyData) : Prop := ∃ (n : Nat) (ns : List Lot) (lot : Lot), ds = [eTree n ns, eLot lot] ∧ Lt10s ns ∧ ns.length ≤ 900 ∧ Lt10 lot ∧ d = eLot (forkL ns lot)
abbrev sp_fork (K : PySem.W.Frag) : Sp := spD K R_fork
theorem len_fork : ∀ ds d, R_fork ds d → ds.length = 2 := by rintro ds d ⟨n, ns, l, rfl, _⟩; rfl
theorem forkB_lt {nests : List Nat} {b : Nat} (hb : b < 1024) (hn : ∀ o ∈ nests, o < 1024) : forkB nests b < 1024 := by
  unfold forkB
  split
  · exact hb
  · cases h : nests.find? fun o => decide (o &&& b = b) with
    | none => exact hb
    | some o => exact hn o (List.mem_of_find?_eq_some h)
-- slots: tree:0 lot:1  level 3
abbrev N_fork : List Str := ["tree", "lot"]
theorem sc_fork : FnScope N_fork ["tree", "lot"] (defScope s_fork) := ⟨rfl, rfl, rfl, by decide +kernel, rfl, by decide +kernel, by decide +kernel⟩
theorem bd_fork : BindsBy "fork" s_fork ["tree", "lot"] := fun _ _ _ _ _ _ us hl => match us, hl with | [_, _], _ => rfl
theorem ok_fork (F : Here K mg "fork" s_fork) (bs : Bs mg) (h_bits_of : Ok P w K mg base 1 "bits_of" ["lot"] (sp_bits_of K)) (h_fork_bits : Ok P w K mg base 2 "fork_bits" ["nests", "bits"] (sp_fork_bits K)) (h_lot_of : OkP P w K mg base 1 "lot_of" ["bits"] (sp_lot_of K)) (h_nest_bits : Ok P w K mg base 2 "nest_bits" ["tree"] (sp_nest_bits K)) : Ok P w K mg base 3 "fork" ["tree", "lot"] (sp_fork K) := by
  have nd := sc_fork.nd
  refine mkG F sc_fork bd_fork (lenD len_fork) fun f cdv A outer s H E hg hr => ⟨_, (pss_cons (ps_ret (pe_callN h_lot_of.ok hg (hr.mono (by decide)) rfl (pa_cons (pe_callN h_fork_bits hg hr rfl (pa_cons (pe_callN h_nest_bits hg hr rfl (pa_cons (pv 0) pa_nil)) (pa_cons (pe_callN h_bits_of hg (hr.mono (by decide)) rfl (pa_cons (pv 1) pa_nil)) pa_nil))) pa_nil)))
    pss_nil), runD fun B ds d hR D hD => ?_⟩
  obtain ⟨n, ns, lot, rfl, h10, hl, hlt, rfl⟩ := hR
  exact q_ret (d := eLot (forkL ns lot)) (ed_call (ea_cons (ed_call (d := eI (forkB (nestB ns) (bitsOf lot))) (ea_cons (ed_L (el_call (ea_cons (ed_var rfl) ea_nil) ⟨n, ns, rfl, h10, by omega, rfl⟩)) (ea_cons (ed_call (ea_cons (ed_var rfl) ea_nil) ⟨lot, rfl, le1000 hlt, rfl⟩) ea_nil)) ⟨nestB ns, bitsOf lot, rfl, rfl⟩) ea_nil) ⟨_, rfl, forkB_lt (bitsOf_lt hlt) (nestB_lt h10), rfl⟩) fun v H' e _ h => hD v H' e h
/-! bits_at -/
def R_bits_at (ds : List PyData) (d : PyData) : Prop := ∃ (b : Nat) (l : Lot), ds = [eI b, eLot l] ∧ l.length ≤ 10 ∧ d = eI (bitsAt b l)
abbrev sp_bits_at (K : PySem.W.Frag) : Sp := spD K R_bits_at
theorem len_bits_at : ∀ ds d, R_bits_at ds d → ds.length = 2 := by rintro ds d ⟨n, l, rfl, _⟩; rfl
theorem bitsAt_step {b : Nat} : ∀ {l : Lot} {i j f : Nat} {x : Nat}, l[i]? = some x → bitsAtGo b j f (l.take (i + 1)) = bitsAtGo b j f (l.take i) ||| (((b >>> x) &&& 1) <<< (j + i))
  | [], i, j, f, x, h => by simp at h
  | y :: l, 0, j, f, x, h => by
    have : y = x := by simpa using h
    subst this
    simp [bitsAtGo]
  | y :: l, i + 1, j, f, x, h => by
    have ih := bitsAt_step (b := b) (l := l) (i := i) (j := j + 1) (f := f ||| (((b >>> y) &&& 1) <<< j)) (x := x) (by simpa using h)
    rw [List.take_succ_cons, List.take_succ_cons]
    show bitsAtGo b (j + 1) _ (l.take (i + 1)) = bitsAtGo b (j + 1) _ (l.take i) ||| _
    rw [ih, show j + 1 + i = j + (i + 1) by omega]
-- slots: bits:0 lot:1 found:2 place:3 leaf:4  level 1
abbrev N_bits_at : List Str := ["bits", "lot", "found", "place", "leaf"]
theorem sc_bits_at : FnScope N_bits_at ["bits", "lot"] (defScope s_bits_at) := ⟨rfl, rfl, rfl, by decide +kernel, rfl, by decide +kernel, by decide +kernel⟩
theorem bd_bits_at : BindsBy "bits_at" s_bits_at ["bits", "lot"] := fun _ _ _ _ _ _ us hl => match us, hl with | [_, _], _ => rfl
theorem ok_bits_at (F : Here K mg "bits_at" s_bits_at) (bs : Bs mg) : Ok P w K mg base 1 "bits_at" ["bits", "lot"] (sp_bits_at K) := by
  have nd := sc_bits_at.nd
  refine mkG F sc_bits_at bd_bits_at (lenD len_bits_at) fun f cdv A outer s H E hg hr => ⟨_, (pss_cons (ps_set (i := 2) nd rfl (Or.inl rfl) pe_int)
    (pss_cons (ps_for PassesOwn.never rfl (pi_enumT rfl bs.enumerate (pa_cons (pv 1) pa_nil)) (pg_tup rfl (pgs_cons (pg_name (i := 3) nd rfl (Or.inl rfl)) (pgs_cons (pg_name (i := 4) nd rfl (Or.inl rfl)) pgs_nil))) (pss_cons (ps_set (i := 2) nd rfl (Or.inl rfl) (pe_op op_or (pv 2) (pe_op op_shl (pe_op op_and (pe_op op_shr (pv 0) (pv 4)) pe_int) (pv 3))))
    pss_nil))
    (pss_cons (ps_ret (pv 2))
    pss_nil))), runD fun B ds d hR D hD => ?_⟩
  obtain ⟨b, l, rfl, hl, rfl⟩ := hR
  refine q_asg (d := eI 0) ed_int rfl ?_
  refine q_forET (xs := l) (enc := eI) (ed_var rfl) (fun _ _ => rfl) (fun i ρ => ∃ s s', ρ = [.d (eI b), .d (eLot l), .d (eI (bitsAtGo b 0 0 (l.take i))), s, s']) ⟨.un, .un, rfl⟩ (fun Z' zk' hZ i a ρ' ha hp => ?_) fun ρ' hp => ?_
  · obtain ⟨s, s', rfl⟩ := hp
    refine q_asg (d := eI (bitsAtGo b 0 0 (l.take i) ||| (((b >>> a) &&& 1) <<< i))) (ed_op (ed_var rfl) (ed_op (x := eI ((b >>> a) &&& 1)) (ed_op (y := eI 1) (ed_op (ed_var rfl) (ed_var rfl) rd_shr) ed_int rd_and) (ed_var rfl) (rd_shl ⟨?_, ?_⟩)) rd_or) rfl ?_
    · rw [Nat.and_one_is_mod]; omega
    · have := (List.getElem?_eq_some_iff.mp ha).1
      omega
    · refine q_lf ⟨.d (.int (i : Int)), .d (eI a), ?_⟩
      rw [bitsAt_step ha, Nat.zero_add]
      rfl
  · obtain ⟨s, s', rfl⟩ := hp
    rw [List.take_length]
    exact q_ret (ed_var rfl) fun v H' e _ h => hD v H' e h
/-! at -/
def R_at (ds : List PyData) (d : PyData) : Prop := ∃ (n : Nat) (ns : List Lot) (l : Lot), ds = [eTree n ns, eLot l] ∧ Lt10s ns ∧ ns.length ≤ 800 ∧ l.length ≤ 10 ∧ d = eTree l.length (atL ns l)
abbrev sp_at (K : PySem.W.Frag) : Sp := spD K R_at
theorem len_at : ∀ ds d, R_at ds d → ds.length = 2 := by rintro ds d ⟨n, ns, l, rfl, _⟩; rfl
-- slots: tree:0 lot:1c some:2 bits:3  level 7
abbrev N_at : List Str := ["tree", "lot", "some", "bits"]
theorem sc_at : FnScope N_at ["tree", "lot"] (defScope s_at) := ⟨rfl, rfl, rfl, by decide +kernel, rfl, by decide +kernel, by decide +kernel⟩
theorem bd_at : BindsBy "at" s_at ["tree", "lot"] := fun _ _ _ _ _ _ us hl => match us, hl with | [_, _], _ => rfl
theorem ok_at (F : Here K mg "at" s_at) (bs : Bs mg) (h_bits_at : Ok P w K mg base 1 "bits_at" ["bits", "lot"] (sp_bits_at K)) (h_is_tip : Ok P w K mg base 1 "is_tip" ["bits"] (sp_is_tip K)) (h_nest_bits : Ok P w K mg base 2 "nest_bits" ["tree"] (sp_nest_bits K)) (h_tree_of_bits : Ok P w K mg base 6 "tree_of_bits" ["size", "some"] (sp_tree_of_bits K)) : Ok P w K mg base 7 "at" ["tree", "lot"] (sp_at K) := by
  have nd := sc_at.nd
  refine mkG F sc_at bd_at (lenD len_at) fun f cdv A outer s H E hg hr => ⟨_, (pss_cons (ps_setLc (own := [("bits", 3)]) (i := 2) rfl nd rfl rfl rfl (pi_lk K rfl (pe_callN h_nest_bits hg (hr.mono (by decide)) rfl (pa_cons (pv 0) pa_nil))) (blk1 rfl rfl rfl rfl rfl) (fun _ _ _ _ _ => pg_name (i := 3) nd rfl (by first | exact Or.inl rfl | exact Or.inr rfl)) (fun _ _ _ _ _ => pts_nil) (fun _ _ _ _ _ => (pe_callN h_bits_at hg (hr.mono (by decide)) rfl (pa_cons (pv 3) (pa_cons (pv 1) pa_nil)))))
    (pss_cons (ps_ret (pe_callN h_tree_of_bits hg hr rfl (pa_cons (pe_callB (cr_lenk K rfl) rfl bs.len boot_len (pa_cons (pv 1) pa_nil)) (pa_cons (pe_lc (own := [("bits", 3)]) rfl nd (pi_lk K rfl (pv 2)) (blk1 rfl rfl rfl rfl rfl) (fun _ _ _ _ _ => pg_name (i := 3) nd rfl (by first | exact Or.inl rfl | exact Or.inr rfl)) (fun _ _ _ _ _ => pts_one (PW.pt (pw_and (pt_cmpR (op_nek K rfl hr.units) (pv 3) pe_int (nomark _)) (pw_and1 (pt_not (pt_val (pe_callN h_is_tip hg (hr.mono (by decide)) rfl (pa_cons (pv 3) pa_nil)))))))) (fun _ _ _ _ _ => (pv 3))) pa_nil))))
    pss_nil)), runD fun B ds d hR D hD => ?_⟩
  obtain ⟨n, ns, l, rfl, h10, hl, hl10, rfl⟩ := hR
  refine q_asgL (ds := ((nestB ns).map fun b => bitsAt b l).map eI) (el_is (el_lcL' (xs := nestB ns) (enc := eI) (f := fun b => eI (bitsAt b l)) (ed_L (el_call (ea_cons (ed_var rfl) ea_nil) ⟨n, ns, rfl, h10, by omega, rfl⟩)) (by rw [nestB_len]; omega) (fun _ _ => rfl) (fun a ha => ed_call (ea_cons (ed_var rfl) (ea_cons (ed_var rfl) ea_nil)) ⟨a, l, rfl, hl10, rfl⟩) fun _ _ => rfl) (by rw [List.map_map]; rfl)) (nls_I _) fun p np => ?_
  refine q_ret (d := eTree l.length (atL ns l)) (ed_call (ea_cons (d := eI l.length) (ed_is (ed_cb (ea_cons (ed_var rfl) ea_nil) rc_lenT) (by rw [List.length_map]; rfl)) (ea_cons (ed_L (el_lcL (xs := (nestB ns).map fun b => bitsAt b l) (enc := eI) (f := eI) (keep := fun b => decide (b ≠ 0) && !isTip b) (ed_varL rfl) ?_ (fun _ _ => rfl) (fun a _ => et_and (et_is (et_test (ed_op (ed_var rfl) ed_int rd_neI)) ?_) fun _ => et_not (et_B (ed_call (ea_cons (ed_var rfl) ea_nil) ⟨a, rfl, rfl⟩))) (fun a _ _ => ed_var rfl) fun _ _ _ => rfl)) ea_nil)) ⟨l.length, _, rfl, hl10, ?_, ?_, rfl⟩) fun v H' e _ h => hD v H' e h
  · rw [List.length_map, nestB_len]; omega
  · show (!decide ((a : Int) = ((0 : Nat) : Int))) = _
    rw [deq]; by_cases h : a = 0 <;> simp [h]
  · intro b hb
    obtain ⟨c, _, rfl⟩ := List.mem_map.mp (List.mem_filter.mp hb).1
    exact bitsAt_lt (by omega) (by decide)
  · refine Nat.le_trans (List.length_filter_le _ _) ?_
    rw [List.length_map, nestB_len]; omega
/-! without -/
def R_without (ds : List PyData) (d : PyData) : Prop := ∃ (n : Nat) (ns : List Lot) (leaf : Nat), ds = [eTree n ns, eI leaf] ∧ Lt10s ns ∧ ns.length ≤ 800 ∧ n ≤ 9 ∧ leaf < n ∧ d = eTree (lessOne n leaf).length (withoutL n ns leaf)
abbrev sp_without (K : PySem.W.Frag) : Sp := spD K R_without
theorem len_without : ∀ ds d, R_without ds d → ds.length = 2 := by rintro ds d ⟨n, ns, l, rfl, _⟩; rfl
theorem less_lt {n leaf : Nat} (hn : n ≤ 9) (h : leaf < n) : ((1 <<< n) - 1) ^^^ (1 <<< leaf) < 1024 := by
  refine Nat.xor_lt_two_pow (n := 10) ?_ ?_
  · rw [Nat.one_shiftLeft]
    have : 2 ^ n ≤ 2 ^ 10 := Nat.pow_le_pow_right (by decide) (by omega)
    omega
  · rw [Nat.one_shiftLeft]
    exact Nat.pow_lt_pow_right (by decide) (by omega)
-- slots: tree:0 leaf:1  level 8
abbrev N_without : List Str := ["tree", "leaf"]
theorem sc_without : FnScope N_without ["tree", "leaf"] (defScope s_without) := ⟨rfl, rfl, rfl, by decide +kernel, rfl, by decide +kernel, by decide +kernel⟩
theorem bd_without : BindsBy "without" s_without ["tree", "leaf"] := fun _ _ _ _ _ _ us hl => match us, hl with | [_, _], _ => rfl
theorem ok_without (F : Here K mg "without" s_without) (bs : Bs mg) (h_all_bits : Ok P w K mg base 1 "all_bits" ["size"] (sp_all_bits K)) (h_at : Ok P w K mg base 7 "at" ["tree", "lot"] (sp_at K)) (h_lot_of : OkP P w K mg base 1 "lot_of" ["bits"] (sp_lot_of K)) : Ok P w K mg base 8 "without" ["tree", "leaf"] (sp_without K) := by
  have nd := sc_without.nd
  refine mkG F sc_without bd_without (lenD len_without) fun f cdv A outer s H E hg hr => ⟨_, (pss_cons (ps_ret (pe_callN h_at hg hr rfl (pa_cons (pv 0) (pa_cons (pe_callN h_lot_of.ok hg (hr.mono (by decide)) rfl (pa_cons (pe_op op_xor (pe_callN h_all_bits hg (hr.mono (by decide)) rfl (pa_cons (pe_ix (ix_tk K rfl) (pv 0) pe_int (fun _ _ => rfl)) pa_nil)) (pe_op op_shl pe_int (pv 1))) pa_nil)) pa_nil))))
    pss_nil), runD fun B ds d hR D hD => ?_⟩
  obtain ⟨n, ns, leaf, rfl, h10, hl, hn, hlf, rfl⟩ := hR
  exact q_ret (d := eTree (lessOne n leaf).length (withoutL n ns leaf)) (ed_call (ea_cons (ed_var rfl) (ea_cons (d := eLot (lessOne n leaf)) (ed_call (ea_cons (d := eI (((1 <<< n) - 1) ^^^ (1 <<< leaf))) (ed_op (ed_call (d := eI ((1 <<< n) - 1)) (ea_cons (ed_size (ed_var rfl)) ea_nil) ⟨n, rfl, by omega, rfl⟩) (ed_op (x := eI 1) (z := eI (1 <<< leaf)) ed_int (ed_var rfl) (rd_shl ⟨by decide, by omega⟩)) rd_xor) ea_nil) ⟨_, rfl, less_lt hn hlf, rfl⟩) ea_nil)) ⟨n, ns, _, rfl, h10, hl, lotOf_len _, rfl⟩) fun v H' e _ h => hD v H' e h
end
end Fk
/-! the walks, 7: moves, names -/
namespace Fk
open PySem PySem.Spec PyProof.Rows L2
def tips (n : Nat) : List Lot := (List.range n).map fun x => [x]
def natLe (a b : Nat) : Bool := decide (a ≤ b)
def sortN (l : List Nat) : List Nat := isort natLe l
theorem sortN_sorted (l : List Nat) : (sortN l).Pairwise (· ≤ ·) := (isort_sorted (r := natLe) (fun a b c h1 h2 => by unfold natLe at *; simp at *; omega) (fun a b => by unfold natLe; simp; omega) l).imp fun h => by simpa [natLe] using h
theorem sortN_perm (l : List Nat) : (sortN l).Perm l := isort_perm _ _
theorem sortI_N (l : List Nat) : sortI (l.map fun x : Nat => (x : Int)) = (sortN l).map fun x : Nat => (x : Int) := by
  refine (sortI_is ((sortN_perm l).map _) ?_).symm
  rw [List.pairwise_map]
  exact (sortN_sorted l).imp fun h => Int.ofNat_le.mpr h
theorem map_eI (l : List Nat) : l.map eI = (l.map fun x : Nat => (x : Int)).map PyData.int := by rw [List.map_map]; rfl
def joinL (a b : Lot) : Lot := sortN (dedup (a ++ b))
def withinL (a b : Lot) : Bool := a.all fun x => decide (x ∈ b)
def lessL (a b : Lot) : Lot := a.filter fun x => decide (x ∉ b)
def standsL (ns : List Lot) (l : Lot) : Bool := decide (l.length = 1) || decide (l ∈ ns)
theorem joinL_mem {a b : Lot} {x : Nat} : x ∈ joinL a b ↔ x ∈ a ++ b := ((sortN_perm _).mem_iff).trans ((dedup_spec _).2 x)
theorem joinL_lt (a b : Lot) : (joinL a b).Pairwise (· < ·) := by
  have h1 := sortN_sorted (dedup (a ++ b))
  have h2 : (joinL a b).Nodup := (sortN_perm _).nodup_iff.mpr (dedup_spec _).1
  exact (h1.and h2).imp fun ⟨h, n⟩ => Nat.lt_of_le_of_ne h n
theorem lt10_of {ls : List Lot} {l : Lot} (h : Lt10s ls) (hl : l ∈ ls) : Lt10 l := h l hl
section
variable {P : Program} {w : World} {K : PySem.W.Frag} {mg : Str → Option Value} {base : Heap} {B : Hp} {ρ : List Sl} {te tf : TE}
theorem ed_lenT {l : List PyData} {n : Nat} (h : EvD K B te ρ (.tuple l)) (e : l.length = n) : EvD K B (tCB (Evl.rLenS K) (tCons te tNil)) ρ (eI n) := ed_is (ed_cb (ea_cons h ea_nil) rc_lenT) (by rw [e]; rfl)
theorem ed_lenL {l : List PyData} {n : Nat} (h : EvD K B te ρ (.list l)) (e : l.length = n) : EvD K B (tCB (Evl.rLenS K) (tCons te tNil)) ρ (eI n) := ed_is (ed_cb (ea_cons h ea_nil) rc_lenL) (by rw [e]; rfl)
theorem ed_lenLot {l : Lot} (h : EvD K B te ρ (eLot l)) : EvD K B (tCB (Evl.rLenS K) (tCons te tNil)) ρ (eI l.length) := ed_lenT h (by simp)
theorem ed_lenLots {l : List Lot} (h : EvD K B te ρ (eLots l)) : EvD K B (tCB (Evl.rLenS K) (tCons te tNil)) ρ (eI l.length) := ed_lenT h (by simp)
theorem ed_inLot {x : Nat} {l : Lot} (h1 : EvD K B te ρ (eI x)) (h2 : EvD K B tf ρ (eLot l)) : EvD K B (tOp (rInA K) te tf) ρ (.bool (decide (x ∈ l))) := ed_is (ed_op h1 h2 (rd_inT (sh_I x) (sh_Is l))) (by rw [any_I])
theorem ed_niLot {x : Nat} {l : Lot} (h1 : EvD K B te ρ (eI x)) (h2 : EvD K B tf ρ (eLot l)) : EvD K B (tOp (rNiA K) te tf) ρ (.bool (decide (x ∉ l))) := ed_is (ed_op h1 h2 (rd_niT (sh_I x) (sh_Is l))) (by rw [any_I]; simp)
theorem ed_inLots {x : Lot} {l : List Lot} (hx : Lt10 x) (hl : Lt10s l) (h1 : EvD K B te ρ (eLot x)) (h2 : EvD K B tf ρ (eLots l)) : EvD K B (tOp (rInA K) te tf) ρ (.bool (decide (x ∈ l))) := ed_is (ed_op h1 h2 (rd_inT (sh_lot hx) (sh_lots hl))) (by rw [any_lot])
theorem ed_niLots {x : Lot} {l : List Lot} (hx : Lt10 x) (hl : Lt10s l) (h1 : EvD K B te ρ (eLot x)) (h2 : EvD K B tf ρ (eLots l)) : EvD K B (tOp (rNiA K) te tf) ρ (.bool (decide (x ∉ l))) := ed_is (ed_op h1 h2 (rd_niT (sh_lot hx) (sh_lots hl))) (by rw [any_lot]; simp)
theorem ed_niLotsL {x : Lot} {l : List Lot} (hx : Lt10 x) (hl : Lt10s l) (h1 : EvD K B te ρ (eLot x)) (h2 : EvD K B tf ρ (.list (l.map eLot))) : EvD K B (tOp (rNiA K) te tf) ρ (.bool (decide (x ∉ l))) := ed_is (ed_op h1 h2 (rd_niL (sh_lot hx) (sh_lots hl))) (by rw [any_lot]; simp)
theorem ed_catLot {a b : Lot} (hl : a.length + b.length ≤ 100000) (h1 : EvD K B te ρ (eLot a)) (h2 : EvD K B tf ρ (eLot b)) : EvD K B (tOp (rCatA K) te tf) ρ (eLot (a ++ b)) := ed_is (ed_op h1 h2 (rd_catT (by simpa using hl))) (by simp [eLot])
theorem ed_eqLot {a b : Lot} (ha : Lt10 a) (hb : Lt10 b) (h1 : EvD K B te ρ (eLot a)) (h2 : EvD K B tf ρ (eLot b)) : EvD K B (tOp (rEqD K) te tf) ρ (.bool (decide (a = b))) := ed_is (ed_op h1 h2 (rd_eq (sh_lot ha) (sh_lot hb))) (by rw [eqv_lot])
theorem ed_neLot {a b : Lot} (ha : Lt10 a) (hb : Lt10 b) (h1 : EvD K B te ρ (eLot a)) (h2 : EvD K B tf ρ (eLot b)) : EvD K B (tOp (rNeD K) te tf) ρ (.bool (decide (a ≠ b))) := ed_is (ed_op h1 h2 (rd_ne (sh_lot ha) (sh_lot hb))) (by rw [eqv_lot]; simp)
theorem ed_eqN {a b : Nat} (h1 : EvD K B te ρ (eI a)) (h2 : EvD K B tf ρ (eI b)) : EvD K B (tOp (rEqD K) te tf) ρ (.bool (decide (a = b))) := ed_is (ed_op h1 h2 rd_eqI) (by rw [deq])
theorem ed_neN {a b : Nat} (h1 : EvD K B te ρ (eI a)) (h2 : EvD K B tf ρ (eI b)) : EvD K B (tOp (rNeD K) te tf) ρ (.bool (decide (a ≠ b))) := ed_is (ed_op h1 h2 rd_neI) (by rw [deq]; simp)
theorem ed_gtN {a b : Nat} (h1 : EvD K B te ρ (eI a)) (h2 : EvD K B tf ρ (eI b)) : EvD K B (tOp (rI0 fun i j => .bl (decide (j < i))) te tf) ρ (.bool (decide (b < a))) := ed_is (ed_op h1 h2 rd_gt) (by rw [dlt])
theorem ed_ltN {a b : Nat} (h1 : EvD K B te ρ (eI a)) (h2 : EvD K B tf ρ (eI b)) : EvD K B (tOp (rI0 fun i j => .bl (decide (i < j))) te tf) ρ (.bool (decide (a < b))) := ed_is (ed_op h1 h2 rd_lt) (by rw [dlt])
theorem ed_geN {a b : Nat} (h1 : EvD K B te ρ (eI a)) (h2 : EvD K B tf ρ (eI b)) : EvD K B (tOp (rI0 fun i j => .bl (decide (j ≤ i))) te tf) ρ (.bool (decide (b ≤ a))) := ed_is (ed_op h1 h2 rd_ge) (by rw [dle])
theorem ed_nat {n : Nat} : EvD K B (tC (.int (n : Int))) ρ (eI n) := ed_int
theorem ed_addN {a b : Nat} (h1 : EvD K B te ρ (eI a)) (h2 : EvD K B tf ρ (eI b)) : EvD K B (tOp (rI0 fun i j => .int (i + j)) te tf) ρ (eI (a + b)) := ed_is (ed_op h1 h2 rd_add) rfl
/-! is_within -/
def R_is_within (ds : List PyData) (d : PyData) : Prop := ∃ a b : Lot, ds = [eLot a, eLot b] ∧ a.length ≤ 50000 ∧ d = .bool (withinL a b)
abbrev sp_is_within (K : PySem.W.Frag) : Sp := spD K R_is_within
theorem len_is_within : ∀ ds d, R_is_within ds d → ds.length = 2 := by rintro ds d ⟨n, ns, rfl, _⟩; rfl
-- slots: lot:0 other:1c leaf:2  level 1
abbrev N_is_within : List Str := ["lot", "other", "leaf"]
theorem sc_is_within : FnScope N_is_within ["lot", "other"] (defScope s_is_within) := ⟨rfl, rfl, rfl, by decide +kernel, rfl, by decide +kernel, by decide +kernel⟩
theorem bd_is_within : BindsBy "is_within" s_is_within ["lot", "other"] := fun _ _ _ _ _ _ us hl => match us, hl with | [_, _], _ => rfl
theorem ok_is_within (F : Here K mg "is_within" s_is_within) (bs : Bs mg) : Ok P w K mg base 1 "is_within" ["lot", "other"] (sp_is_within K) := by
  have nd := sc_is_within.nd
  refine mkG F sc_is_within bd_is_within (lenD len_is_within) fun f cdv A outer s H E hg hr => ⟨_, (pss_cons (ps_ret (pe_callB (cr_allk K rfl rfl) rfl bs.all (by decide +kernel) (pa_cons (pe_lc (own := [("leaf", 2)]) rfl nd (pi_tk K rfl (pv 0)) (blk1 rfl rfl rfl rfl rfl) (fun _ _ _ _ _ => pg_name (i := 2) nd rfl (by first | exact Or.inl rfl | exact Or.inr rfl)) (fun _ _ _ _ _ => pts_nil) (fun _ _ _ _ _ => (pe_cmpR (op_ink K rfl (hu65 hr)) (pv 2) (pv 1) (by with_unfolding_all rfl)))) pa_nil)))
    pss_nil), runD fun B ds d hR D hD => ?_⟩
  obtain ⟨a, b, rfl, hl, rfl⟩ := hR
  refine q_ret (d := .bool (withinL a b)) (ed_is (ed_cb (ea_cons (ed_L (el_is (el_lcT' (xs := a) (enc := eI) (f := fun x => .bool (decide (x ∈ b))) (ed_var rfl) hl (fun _ _ => rfl) (fun x _ => ed_inLot (ed_var rfl) (ed_var rfl)) fun _ _ => rfl) (show _ = (a.map fun x => decide (x ∈ b)).map PyData.bool by rw [List.map_map]; rfl))) ea_nil) rc_all) ?_) fun v H' e _ h => hD v H' e h
  unfold withinL
  rw [List.all_map]; rfl
/-! joined -/
def R_joined (ds : List PyData) (d : PyData) : Prop := ∃ a b : Lot, ds = [eLot a, eLot b] ∧ a.length + b.length ≤ 60 ∧ d = eLot (joinL a b)
abbrev sp_joined (K : PySem.W.Frag) : Sp := spD K R_joined
theorem len_joined : ∀ ds d, R_joined ds d → ds.length = 2 := by rintro ds d ⟨n, ns, rfl, _⟩; rfl
-- slots: lot:0 other:1  level 1
abbrev N_joined : List Str := ["lot", "other"]
theorem sc_joined : FnScope N_joined ["lot", "other"] (defScope s_joined) := ⟨rfl, rfl, rfl, by decide +kernel, rfl, by decide +kernel, by decide +kernel⟩
theorem bd_joined : BindsBy "joined" s_joined ["lot", "other"] := fun _ _ _ _ _ _ us hl => match us, hl with | [_, _], _ => rfl
theorem ok_joined (F : Here K mg "joined" s_joined) (bs : Bs mg) : Ok P w K mg base 1 "joined" ["lot", "other"] (sp_joined K) := by
  have nd := sc_joined.nd
  refine mkG F sc_joined bd_joined (lenD len_joined) fun f cdv A outer s H E hg hr => ⟨_, (pss_cons (ps_ret (pe_callTy (cr_tupk K rfl) rfl bs.tuple boot_tuple (pa_cons (pe_callB (cr_sortedSet rfl) rfl bs.sorted (by decide +kernel) (pa_cons (pe_callTy (cr_setT rfl) rfl bs.set boot_set (pa_cons (pe_op (op_catk K rfl) (pv 0) (pv 1)) pa_nil)) pa_nil)) pa_nil)))
    pss_nil), runD fun B ds d hR D hD => ?_⟩
  obtain ⟨a, b, rfl, hl, rfl⟩ := hR
  refine q_ret (d := eLot (joinL a b)) (ed_cb (ea_cons (ed_L (el_is (el_sortSet (w := w) (ns := (a ++ b).map fun x : Nat => (x : Int)) (ms := (joinL a b).map fun x : Nat => (x : Int)) (ed_is (ed_catLot (by omega) (ed_var rfl) (ed_var rfl)) (by rw [eLot, map_eI])) (by simpa using hl) ?_ ?_) (map_eI _).symm)) ea_nil) rc_tupL) fun v H' e _ h => hD v H' e h
  · rw [List.pairwise_map]
    exact (joinL_lt a b).imp fun h => Int.ofNat_lt.mpr h
  · intro k
    constructor
    · intro h
      obtain ⟨x, hx, rfl⟩ := List.mem_map.mp h
      exact List.mem_map.mpr ⟨x, joinL_mem.mp hx, rfl⟩
    · intro h
      obtain ⟨x, hx, rfl⟩ := List.mem_map.mp h
      exact List.mem_map.mpr ⟨x, joinL_mem.mpr hx, rfl⟩
/-! less -/
def R_less (ds : List PyData) (d : PyData) : Prop := ∃ a b : Lot, ds = [eLot a, eLot b] ∧ a.length ≤ 50000 ∧ d = eLot (lessL a b)
abbrev sp_less (K : PySem.W.Frag) : Sp := spD K R_less
theorem len_less : ∀ ds d, R_less ds d → ds.length = 2 := by rintro ds d ⟨n, ns, rfl, _⟩; rfl
-- slots: lot:0 other:1c leaf:2  level 1
abbrev N_less : List Str := ["lot", "other", "leaf"]
theorem sc_less : FnScope N_less ["lot", "other"] (defScope s_less) := ⟨rfl, rfl, rfl, by decide +kernel, rfl, by decide +kernel, by decide +kernel⟩
theorem bd_less : BindsBy "less" s_less ["lot", "other"] := fun _ _ _ _ _ _ us hl => match us, hl with | [_, _], _ => rfl
theorem ok_less (F : Here K mg "less" s_less) (bs : Bs mg) : Ok P w K mg base 1 "less" ["lot", "other"] (sp_less K) := by
  have nd := sc_less.nd
  refine mkG F sc_less bd_less (lenD len_less) fun f cdv A outer s H E hg hr => ⟨_, (pss_cons (ps_ret (pe_callTy (cr_tupk K rfl) rfl bs.tuple boot_tuple (pa_cons (pe_lc (own := [("leaf", 2)]) rfl nd (pi_tk K rfl (pv 0)) (blk1 rfl rfl rfl rfl rfl) (fun _ _ _ _ _ => pg_name (i := 2) nd rfl (by first | exact Or.inl rfl | exact Or.inr rfl)) (fun _ _ _ _ _ => pts_one (pt_cmpR (op_nik K rfl (hu65 hr)) (pv 2) (pv 1) (by with_unfolding_all rfl))) (fun _ _ _ _ _ => (pv 2))) pa_nil)))
    pss_nil), runD fun B ds d hR D hD => ?_⟩
  obtain ⟨a, b, rfl, hl, rfl⟩ := hR
  exact q_ret (d := eLot (lessL a b)) (ed_cb (ea_cons (ed_L (el_lcT (xs := a) (enc := eI) (f := eI) (keep := fun x => decide (x ∉ b)) (ed_var rfl) hl (fun _ _ => rfl) (fun x _ => et_test (ed_niLot (ed_var rfl) (ed_var rfl))) (fun x _ _ => ed_var rfl) fun _ _ _ => rfl)) ea_nil) rc_tupL) fun v H' e _ h => hD v H' e h
/-! stands_in -/
def R_stands_in (ds : List PyData) (d : PyData) : Prop := ∃ (n : Nat) (ns : List Lot) (l : Lot), ds = [eTree n ns, eLot l] ∧ Lt10s ns ∧ Lt10 l ∧ d = .bool (standsL ns l)
abbrev sp_stands_in (K : PySem.W.Frag) : Sp := spD K R_stands_in
theorem len_stands_in : ∀ ds d, R_stands_in ds d → ds.length = 2 := by rintro ds d ⟨n, ns, l, rfl, _⟩; rfl
-- slots: tree:0 lot:1  level 1
abbrev N_stands_in : List Str := ["tree", "lot"]
theorem sc_stands_in : FnScope N_stands_in ["tree", "lot"] (defScope s_stands_in) := ⟨rfl, rfl, rfl, by decide +kernel, rfl, by decide +kernel, by decide +kernel⟩
theorem bd_stands_in : BindsBy "stands_in" s_stands_in ["tree", "lot"] := fun _ _ _ _ _ _ us hl => match us, hl with | [_, _], _ => rfl
theorem ok_stands_in (F : Here K mg "stands_in" s_stands_in) (bs : Bs mg) : Ok P w K mg base 1 "stands_in" ["tree", "lot"] (sp_stands_in K) := by
  have nd := sc_stands_in.nd
  refine mkG F sc_stands_in bd_stands_in (lenD len_stands_in) fun f cdv A outer s H E hg hr => ⟨_, (pss_cons (ps_ret (pe_or (pe_cmpR (op_eqk K rfl hr.units) (pe_callB (cr_lenk K rfl) rfl bs.len boot_len (pa_cons (pv 1) pa_nil)) pe_int (nomark _)) (pe_one (pe_cmpR (op_ink K rfl (hu65 hr)) (pv 1) (pe_ix (ix_tk K rfl) (pv 0) pe_int (fun _ _ => rfl)) (by with_unfolding_all rfl)))))
    pss_nil), runD fun B ds d hR D hD => ?_⟩
  obtain ⟨n, ns, l, rfl, h10, hl, rfl⟩ := hR
  exact q_ret (d := .bool (standsL ns l)) (ed_orV (ed_eqN (b := 1) (ed_lenLot (ed_var rfl)) ed_int) fun _ => ed_inLots hl h10 (ed_var rfl) (ed_nests (ed_var rfl))) fun v H' e _ h => hD v H' e h
/-! with_nests -/
def R_with_nests (ds : List PyData) (d : PyData) : Prop := ∃ (n : Nat) (ns : List Lot), ds = [eI n, .list (ns.map eLot)] ∧ ns.length ≤ 1000 ∧ d = eTree n (ordL ns)
abbrev sp_with_nests (K : PySem.W.Frag) : Sp := spD K R_with_nests
theorem len_with_nests : ∀ ds d, R_with_nests ds d → ds.length = 2 := by rintro ds d ⟨n, ns, rfl, _⟩; rfl
-- slots: size:0 nests:1  level 5
abbrev N_with_nests : List Str := ["size", "nests"]
theorem sc_with_nests : FnScope N_with_nests ["size", "nests"] (defScope s_with_nests) := ⟨rfl, rfl, rfl, by decide +kernel, rfl, by decide +kernel, by decide +kernel⟩
theorem bd_with_nests : BindsBy "with_nests" s_with_nests ["size", "nests"] := fun _ _ _ _ _ _ us hl => match us, hl with | [_, _], _ => rfl
theorem ok_with_nests (F : Here K mg "with_nests" s_with_nests) (bs : Bs mg) (h_in_order : Ok P w K mg base 4 "in_order" ["lots"] (sp_in_order K)) : Ok P w K mg base 5 "with_nests" ["size", "nests"] (sp_with_nests K) := by
  have nd := sc_with_nests.nd
  refine mkG F sc_with_nests bd_with_nests (lenD len_with_nests) fun f cdv A outer s H E hg hr => ⟨_, (pss_cons (ps_ret (pe_tup (pa_cons (pv 0) (pa_cons (pe_callTy (cr_tupk K rfl) rfl bs.tuple boot_tuple (pa_cons (pe_callN h_in_order hg hr rfl (pa_cons (pe_callTy (cr_tupk K rfl) rfl bs.tuple boot_tuple (pa_cons (pv 1) pa_nil)) pa_nil)) pa_nil)) pa_nil))))
    pss_nil), runD fun B ds d hR D hD => ?_⟩
  obtain ⟨n, ns, rfl, hl, rfl⟩ := hR
  exact q_ret (d := eTree n (ordL ns)) (ed_tup (ea_cons (ed_var rfl) (ea_cons (d := eLots (ordL ns)) (ed_cb (ea_cons (ed_call (ea_cons (ed_cb (ea_cons (ed_var rfl) ea_nil) rc_tupL) ea_nil) ⟨ns, rfl, hl, rfl⟩) ea_nil) rc_tupT) ea_nil)) (by simp)) fun v H' e _ h => hD v H' e h
/-! is_map -/
def R_is_map (ds : List PyData) (d : PyData) : Prop := ∃ (n : Nat) (l : Lot), ds = [eI n, eLot l] ∧ n ≤ 1000 ∧ l.length = n ∧ sortN l = List.range n ∧ d = .bool true
abbrev sp_is_map (K : PySem.W.Frag) : Sp := spD K R_is_map
theorem len_is_map : ∀ ds d, R_is_map ds d → ds.length = 2 := by rintro ds d ⟨n, ns, rfl, _⟩; rfl
theorem rangeD_I (n : Nat) : rangeD n = (List.range n).map eI := rfl
-- slots: size:0 value:1 leaf:2  level 1
abbrev N_is_map : List Str := ["size", "value", "leaf"]
theorem sc_is_map : FnScope N_is_map ["size", "value"] (defScope s_is_map) := ⟨rfl, rfl, rfl, by decide +kernel, rfl, by decide +kernel, by decide +kernel⟩
theorem bd_is_map : BindsBy "is_map" s_is_map ["size", "value"] := fun _ _ _ _ _ _ us hl => match us, hl with | [_, _], _ => rfl
theorem ok_is_map (F : Here K mg "is_map" s_is_map) (bs : Bs mg) : Ok P w K mg base 1 "is_map" ["size", "value"] (sp_is_map K) := by
  have nd := sc_is_map.nd
  refine mkG F sc_is_map bd_is_map (lenD len_is_map) fun f cdv A outer s H E hg hr => ⟨_, (pss_cons (ps_if (PW.pt (pw_or (pt_not (pt_val (pe_callB (cr_isik K rfl) rfl bs.isinstance (by decide +kernel) (pa_cons (pv 1) (pa_cons (pe_bltn (v := .ty "tuple") rfl bs.tuple boot_tuple rfl) pa_nil))))) (pw_or1 (pt_cmpR (op_nek K rfl hr.units) (pe_callB (cr_lenk K rfl) rfl bs.len boot_len (pa_cons (pv 1) pa_nil)) (pv 0) (nomark _))))) (pss_cons (ps_ret pe_bl)
    pss_nil) pss_nil)
    (pss_cons (ps_if (pt_not (pt_val (pe_callB (cr_allk K rfl rfl) rfl bs.all (by decide +kernel) (pa_cons (pe_lc (own := [("leaf", 2)]) rfl nd (pi_tk K rfl (pv 1)) (blk1 rfl rfl rfl rfl rfl) (fun _ _ _ _ _ => pg_name (i := 2) nd rfl (by first | exact Or.inl rfl | exact Or.inr rfl)) (fun _ _ _ _ _ => pts_nil) (fun _ _ _ _ _ => (pe_and (pe_callB (cr_isik K rfl) rfl bs.isinstance (by decide +kernel) (pa_cons (pv 2) (pa_cons (pe_bltn (v := .ty "int") rfl bs.int boot_int rfl) pa_nil))) (pe_one (pe_not (pe_callB (cr_isik K rfl) rfl bs.isinstance (by decide +kernel) (pa_cons (pv 2) (pa_cons (pe_bltn (v := .ty "bool") rfl bs.bool boot_bool rfl) pa_nil)))))))) pa_nil)))) (pss_cons (ps_ret pe_bl)
    pss_nil) pss_nil)
    (pss_cons (ps_ret (pe_cmpR (op_eqk K rfl hr.units) (pe_callB (cr_sortTk K rfl) rfl bs.sorted (by decide +kernel) (pa_cons (pv 1) pa_nil)) (pe_listRg rfl rfl bs.list (prg_1 rfl bs.range (pv 0))) (nomark _)))
    pss_nil))), runD fun B ds d hR D hD => ?_⟩
  obtain ⟨n, l, rfl, hn, hl, hs, rfl⟩ := hR
  refine q_if (b := false) (et_is (et_or (et_not (et_B (ed_isT (ed_var rfl)))) fun _ => et_test (ed_neN (ed_lenLot (ed_var rfl)) (ed_var rfl))) (by simp [hl])) (fun h => nomatch h) (fun _ => q_next ?_)
  refine q_if (b := false) (et_is (et_not (et_B (ed_cb (ea_cons (ed_L (el_is (el_lcT' (xs := l) (enc := eI) (f := fun _ => .bool true) (ed_var rfl) (by omega) (fun _ _ => rfl) (fun x _ => ed_andV (a := true) (ed_isI (ed_var rfl)) fun _ => ed_notV (ed_isB (ed_var rfl))) fun _ _ => rfl) (show _ = (l.map fun _ => true).map PyData.bool by rw [List.map_map]; rfl))) ea_nil) rc_all))) (by simp)) (fun h => nomatch h) (fun _ => q_next ?_)
  refine q_ret (d := .bool true) (ed_is (ed_op (ed_L (el_is (el_sortTI (ns := l.map fun x : Nat => (x : Int)) (ed_is (ed_var rfl) (by rw [eLot, map_eI]))) (by rw [sortI_N, ← map_eI]))) (ed_L (el_is (el_listRg (n := n) (ed_var rfl) hn) (rangeD_I n))) (rd_eq (sh_Is _) (sh_Is _))) ?_) fun v H' e _ h => hD v H' e h
  simp only [PyData.eqv]
  rw [eqvs_I, hs]
  simp
/-! renamed -/
def nameL (ns : List Lot) (line : Lot) : List Lot := ns.map fun l => sortN (l.map fun x => line.getD x 0)
def renameL (ns : List Lot) (line : Lot) : List Lot := ordL (nameL ns line)
def R_renamed (ds : List PyData) (d : PyData) : Prop := ∃ (n : Nat) (ns : List Lot) (line : Lot), ds = [eTree n ns, eLot line] ∧ n ≤ 10 ∧ line.length = n ∧ sortN line = List.range n ∧ (∀ l ∈ ns, ∀ x ∈ l, x < n) ∧ (∀ l ∈ ns, l.length ≤ 1000) ∧ ns.length ≤ 1000 ∧ d = eTree n (renameL ns line)
abbrev sp_renamed (K : PySem.W.Frag) : Sp := spD K R_renamed
theorem len_renamed : ∀ ds d, R_renamed ds d → ds.length = 2 := by rintro ds d ⟨n, ns, l, rfl, _⟩; rfl
theorem atI_I {l : List Nat} {x : Nat} (h : x < l.length) : atI (l.map eI) (x : Int) = some (eI (l.getD x 0)) := by
  unfold atI
  have h' : x < (l.map eI).length := by simpa using h
  rw [Evl.ixN_nat h']
  simp [List.getElem?_eq_getElem h, List.getD]
-- slots: tree:0 naming:1c size:2 nests:3 nest:4 leaf:5  level 5
abbrev N_renamed : List Str := ["tree", "naming", "size", "nests", "nest", "leaf"]
theorem sc_renamed : FnScope N_renamed ["tree", "naming"] (defScope s_renamed) := ⟨rfl, rfl, rfl, by decide +kernel, rfl, by decide +kernel, by decide +kernel⟩
theorem bd_renamed : BindsBy "renamed" s_renamed ["tree", "naming"] := fun _ _ _ _ _ _ us hl => match us, hl with | [_, _], _ => rfl
theorem ok_renamed (F : Here K mg "renamed" s_renamed) (bs : Bs mg) (h_in_order : Ok P w K mg base 4 "in_order" ["lots"] (sp_in_order K)) (h_is_map : Ok P w K mg base 1 "is_map" ["size", "value"] (sp_is_map K)) : Ok P w K mg base 5 "renamed" ["tree", "naming"] (sp_renamed K) := by
  have nd := sc_renamed.nd
  refine mkG F sc_renamed bd_renamed (lenD len_renamed) fun f cdv A outer s H E hg hr => ⟨_, (pss_cons (ps_asg (pv 0) (pg_tup rfl (pgs_cons (pg_name (i := 2) nd rfl (Or.inl rfl)) (pgs_cons (pg_name (i := 3) nd rfl (Or.inl rfl)) pgs_nil))))
    (pss_cons (ps_if (pt_not (pt_val (pe_callN h_is_map hg (hr.mono (by decide)) rfl (pa_cons (pv 2) (pa_cons (pv 1) pa_nil))))) pss_never pss_nil)
    (pss_cons (ps_ret (pe_tup (pa_cons (pv 2) (pa_cons (pe_callTy (cr_tupk K rfl) rfl bs.tuple boot_tuple (pa_cons (pe_callN h_in_order hg hr rfl (pa_cons (pe_callTy (cr_tupk K rfl) rfl bs.tuple boot_tuple (pa_cons (pe_lc (own := [("nest", 4)]) rfl nd (pi_tk K rfl (pv 3)) (blk1 rfl rfl rfl rfl rfl) (fun _ _ _ _ _ => pg_name (i := 4) nd rfl (by first | exact Or.inl rfl | exact Or.inr rfl)) (fun _ _ _ _ _ => pts_nil) (fun _ _ _ _ _ => (pe_callTy (cr_tupk K rfl) rfl bs.tuple boot_tuple (pa_cons (pe_callB (cr_sortIk K rfl) rfl bs.sorted (by decide +kernel) (pa_cons (pe_lc (own := [("leaf", 5)]) rfl nd (pi_tk K rfl (pv 4)) (blk1 rfl rfl rfl rfl rfl) (fun _ _ _ _ _ => pg_name (i := 5) nd rfl (by first | exact Or.inl rfl | exact Or.inr rfl)) (fun _ _ _ _ _ => pts_nil) (fun _ _ _ _ _ => (pe_ix (ix_tk K rfl) (pv 1) (pv 5) (fun _ _ => rfl)))) pa_nil)) pa_nil)))) pa_nil)) pa_nil)) pa_nil)) pa_nil))))
    pss_nil))), runD fun B ds d hR D hD => ?_⟩
  obtain ⟨n, ns, line, rfl, hn, hl, hs, hx, hll, hnl, rfl⟩ := hR
  refine q_unp (ed_var (d := eTree n ns) rfl) (gt_tup2 (x := eI n) (y := eLots ns) rfl (nl_Lots ns)) ?_
  refine q_if (b := false) (et_is (et_not (et_B (ed_call (ea_cons (ed_var rfl) (ea_cons (ed_var rfl) ea_nil)) ⟨n, line, rfl, by omega, hl, hs, rfl⟩))) rfl) (fun h => nomatch h) (fun _ => q_next ?_)
  refine q_ret (d := eTree n (renameL ns line)) (ed_tup (ea_cons (ed_var rfl) (ea_cons (d := eLots (renameL ns line)) (ed_cb (ea_cons (ed_call (ea_cons (d := eLots (nameL ns line)) (ed_cb (ea_cons (ed_L (el_is (el_lcT' (xs := ns) (enc := eLot) (f := fun l => eLot (sortN (l.map fun x => line.getD x 0))) (ed_var rfl) (by omega) (fun a _ => nl_Lot a) (fun l hm => ed_cb (ea_cons (ed_L (el_is (el_cb (ea_cons (ed_L (el_is (el_lcT' (xs := l) (enc := eI) (f := fun x => eI (line.getD x 0)) (ed_var rfl) (by have := hll l hm; omega) (fun _ _ => rfl) (fun x hxm => ed_op (ed_var rfl) (ed_var rfl) (rd_ixT (i := (x : Int)) (atI_I (by rw [hl]; exact hx l hm x hxm)))) fun _ _ => rfl) (show _ = ((l.map fun x => line.getD x 0).map fun x : Nat => (x : Int)).map PyData.int by rw [List.map_map, List.map_map]; rfl))) ea_nil) rl_sortI) (by rw [sortI_N, ← map_eI]))) ea_nil) rc_tupL) fun a _ => nl_Lot _) (show _ = (nameL ns line).map eLot by unfold nameL; rw [List.map_map]; rfl))) ea_nil) rc_tupL) ea_nil) ⟨nameL ns line, rfl, by unfold nameL; rw [List.length_map]; omega, rfl⟩) ea_nil) rc_tupT) ea_nil)) (by simp)) fun v H' e _ h => hD v H' e h
end
end Fk
/-! the walks, 8: leaves put in, cut off -/
namespace Fk
open PySem PySem.Spec PyProof.Rows L2
def putBase (ns : List Lot) (lot : Lot) : Lot := if standsL ns lot = true then lot else forkL ns lot
def grown (ns : List Lot) (lot nest : Lot) : Bool := withinL (putBase ns lot) nest && !(standsL ns lot && decide (nest = putBase ns lot))
def putRaw (n : Nat) (ns : List Lot) (lot : Lot) : List Lot := (if standsL ns lot = true then [lot ++ [n]] else []) ++ ns.map fun nest => if grown ns lot nest = true then nest ++ [n] else nest
def putInL (n : Nat) (ns : List Lot) (lot : Lot) : List Lot := ordL (putRaw n ns lot)
def leftStep (lot : Lot) (acc : List Lot) (nest : Lot) : List Lot := if 1 < (lessL nest lot).length then dstep acc (lessL nest lot) else acc
def leftL (ns : List Lot) (lot : Lot) : List Lot := ns.foldl (leftStep lot) []
def cutRaw (ns : List Lot) (a b : Nat) : List Lot := (ns.filter (fun nest => withinL nest [a]) ++ [joinL [a] [b]]) ++ (leftL ns [a]).map fun nest => if (withinL [b] nest && decide (nest ≠ [b])) = true then joinL nest [a] else nest
def cutPutL (ns : List Lot) (a b : Nat) : List Lot := ordL (cutRaw ns a b)
theorem left_mem {lot : Lot} : ∀ {ns acc : List Lot} {x : Lot}, x ∈ ns.foldl (leftStep lot) acc → x ∈ acc ∨ ∃ nest ∈ ns, x = lessL nest lot
  | [], _, _, h => .inl h
  | y :: ns, acc, x, h => by
    rcases left_mem (ns := ns) h with h | ⟨nest, hn, rfl⟩
    · unfold leftStep dstep at h
      split at h
      · split at h
        · exact .inl h
        · rcases List.mem_append.mp h with h | h
          · exact .inl h
          · exact .inr ⟨y, List.mem_cons_self, List.mem_singleton.mp h⟩
      · exact .inl h
    · exact .inr ⟨nest, List.mem_cons_of_mem _ hn, rfl⟩
theorem left_len {lot : Lot} : ∀ {ns acc : List Lot}, (ns.foldl (leftStep lot) acc).length ≤ acc.length + ns.length
  | [], _ => by simp
  | y :: ns, acc => by
    have h1 := left_len (lot := lot) (ns := ns) (acc := leftStep lot acc y)
    have h2 : (leftStep lot acc y).length ≤ acc.length + 1 := by
      unfold leftStep dstep
      split
      · split <;> simp
      · omega
    rw [List.foldl_cons, List.length_cons]; omega
section
variable {P : Program} {w : World} {K : PySem.W.Frag} {mg : Str → Option Value} {base : Heap} {B : Hp} {ρ : List Sl} {te tf : TE}
/-- a def that gives nothing back -/
theorem runN {R : List PyData → PyData → Prop} {N : List Str} {t : TS} (hn : ∀ ds d, R ds d → d = .none) (h : ∀ (B : Hp) (ds : List PyData), R ds .none → ∀ D : Ends, (∀ σ H', Ex B H' → D.nx σ H') → TrR K B S0 Z0 t (startS N ds) D)
    (vs : List V) (H : Hp) (Q : VK) (E : XK) (hs : spD K R vs H Q E) : t { nx := fun _ H' => Q .non H', rt := Q } (L2.start N vs) H := by
  obtain ⟨ds, d, h1, hR, q⟩ := hs
  obtain rfl := hn ds d hR
  exact h H ds hR _ (fun σ H' e => q _ H' e .non) _ _ ⟨Ex.rf, trivial, env_start h1⟩
/-! put_in -/
def R_put_in (ds : List PyData) (d : PyData) : Prop := ∃ (n : Nat) (ns : List Lot) (lot : Lot), ds = [eTree n ns, eLot lot] ∧ n ≤ 8 ∧ Lt10s ns ∧ Lt10 lot ∧ ns.length ≤ 800 ∧ (∀ l ∈ ns, l.length ≤ 100) ∧ lot.length ≤ 100 ∧ d = eTree (n + 1) (putInL n ns lot)
abbrev sp_put_in (K : PySem.W.Frag) : Sp := spD K R_put_in
theorem len_put_in : ∀ ds d, R_put_in ds d → ds.length = 2 := by rintro ds d ⟨n, ns, l, rfl, _⟩; rfl
theorem fork_len (ns : List Lot) (lot : Lot) : (forkL ns lot).length ≤ 10 := lotOf_len _
-- slots: tree:0 lot:1 base:2 found:3 nest:4 size:5 nests:6 fresh:7 is_beside:8 is_grown:9  level 6
abbrev N_put_in : List Str := ["tree", "lot", "base", "found", "nest", "size", "nests", "fresh", "is_beside", "is_grown"]
theorem sc_put_in : FnScope N_put_in ["tree", "lot"] (defScope s_put_in) := ⟨rfl, rfl, rfl, by decide +kernel, rfl, by decide +kernel, by decide +kernel⟩
theorem bd_put_in : BindsBy "put_in" s_put_in ["tree", "lot"] := fun _ _ _ _ _ _ us hl => match us, hl with | [_, _], _ => rfl
theorem ok_put_in (F : Here K mg "put_in" s_put_in) (bs : Bs mg) (h_fork : Ok P w K mg base 3 "fork" ["tree", "lot"] (sp_fork K)) (h_is_within : Ok P w K mg base 1 "is_within" ["lot", "other"] (sp_is_within K)) (h_stands_in : Ok P w K mg base 1 "stands_in" ["tree", "lot"] (sp_stands_in K)) (h_with_nests : Ok P w K mg base 5 "with_nests" ["size", "nests"] (sp_with_nests K)) : Ok P w K mg base 6 "put_in" ["tree", "lot"] (sp_put_in K) := by
  have nd := sc_put_in.nd
  obtain ⟨tml, ml⟩ := bs.leaves
  refine mkG F sc_put_in bd_put_in (lenD len_put_in) fun f cdv A outer s H E hg hr => ⟨_, (pss_cons (ps_asg (pv 0) (pg_tup rfl (pgs_cons (pg_name (i := 5) nd rfl (Or.inl rfl)) (pgs_cons (pg_name (i := 6) nd rfl (Or.inl rfl)) pgs_nil))))
    (pss_cons (ps_if (pt_cmpR op_ge (pv 5) (pe_glob (v := .int 9) rfl ml ⟨_, rfl⟩) (nomark _)) pss_never pss_nil)
    (pss_cons (ps_par (i := 7) (j := 8) rfl nd rfl rfl (by decide) rfl rfl (pa_cons (pe_tup (pa_cons (pv 5) pa_nil)) (pa_cons (pe_callN h_stands_in hg (hr.mono (by decide)) rfl (pa_cons (pv 0) (pa_cons (pv 1) pa_nil))) pa_nil)) rfl)
    (pss_cons (ps_set (i := 2) nd rfl (Or.inl rfl) (pe_ifExp (pt_val (pv 8)) (pv 1) (pe_callN h_fork hg (hr.mono (by decide)) rfl (pa_cons (pv 0) (pa_cons (pv 1) pa_nil)))))
    (pss_cons (ps_set (i := 3) nd rfl (Or.inl rfl) (pe_ifExp (pt_val (pv 8)) (pe_lst (pa_cons (pe_op (op_catk K rfl) (pv 1) (pv 7)) pa_nil)) (pe_lst pa_nil)))
    (pss_cons (ps_for PassesOwn.never rfl (pi_tk K rfl (pv 6)) (pg_name (i := 4) nd rfl (Or.inl rfl)) (pss_cons (ps_set (i := 9) nd rfl (Or.inl rfl) (pe_and (pe_callN h_is_within hg (hr.mono (by decide)) rfl (pa_cons (pv 2) (pa_cons (pv 4) pa_nil))) (pe_one (pe_not (pe_and (pv 8) (pe_one (pe_cmpR (op_eqk K rfl hr.units) (pv 4) (pv 2) (nomark _))))))))
    (pss_cons (ps_expr (pe_bm PySem.F.plainAttrs_list PySem.F.slot_list_append PySem.F.type_list_append mt_append (pv 3) (pa_cons (pe_ifExp (pt_val (pv 9)) (pe_op (op_catk K rfl) (pv 4) (pv 7)) (pv 4)) pa_nil)))
    pss_nil)))
    (pss_cons (ps_ret (pe_callN h_with_nests hg hr rfl (pa_cons (pe_op op_add (pv 5) pe_int) (pa_cons (pv 3) pa_nil))))
    pss_nil))))))), runD fun B ds d hR D hD => ?_⟩
  obtain ⟨n, ns, lot, rfl, hn, h10, hlt, hl, hll, hlot, rfl⟩ := hR
  have hb10 : Lt10 (putBase ns lot) := by
    unfold putBase
    split
    · exact hlt
    · exact fun x hx => lotOf_lt hx
  have hbl : (putBase ns lot).length ≤ 100 := by
    unfold putBase
    split
    · exact hlot
    · have := fork_len ns lot; omega
  refine q_unp (ed_var (d := eTree n ns) rfl) (gt_tup2 (x := eI n) (y := eLots ns) rfl (nl_Lots ns)) ?_
  refine q_if (b := false) (et_is (et_test (ed_geN (b := 9) (ed_var rfl) ed_int)) (by simp; omega)) (fun h => nomatch h) (fun _ => q_next ?_)
  refine q_parDD (d := eLot [n]) (d2 := .bool (standsL ns lot)) (ea_cons (ed_tup (ea_cons (ed_var rfl) ea_nil) (by simp)) (ea_cons (ed_call (ea_cons (ed_var rfl) (ea_cons (ed_var rfl) ea_nil)) ⟨n, ns, lot, rfl, h10, hlt, rfl⟩) ea_nil)) rfl rfl ?_
  refine q_asg (d := eLot (putBase ns lot)) (ed_if (b := standsL ns lot) (et_B (ed_var rfl)) (fun h => ?_) (fun h => ?_)) (nl_Lot _) ?_
  · rw [show putBase ns lot = lot from if_pos h]; exact ed_var rfl
  · rw [show putBase ns lot = forkL ns lot from if_neg (by rw [h]; simp)]
    exact ed_call (ea_cons (ed_var rfl) (ea_cons (ed_var rfl) ea_nil)) ⟨n, ns, lot, rfl, h10, by omega, hlt, rfl⟩
  refine q_asgL (ds := ((if standsL ns lot = true then [lot ++ [n]] else [] : List Lot)).map eLot) (el_if (b := standsL ns lot) (et_B (ed_var rfl)) (fun h => ?_) (fun h => ?_)) (nls_Lot _) fun p np => ?_
  · rw [if_pos h]
    exact el_lst (ea_cons (ed_catLot (by simp; omega) (ed_var rfl) (ed_var rfl)) ea_nil) (by simp)
  · rw [if_neg (by rw [h]; simp)]
    exact el_lst ea_nil (by simp)
  have h0 : ((if standsL ns lot = true then [lot ++ [n]] else [] : List Lot)).length ≤ 1 := by split <;> simp
  generalize hF : (if standsL ns lot = true then [lot ++ [n]] else [] : List Lot) = F at h0 ⊢
  refine q_forT (xs := ns) (enc := eLot) (ρn := fun ρ a => ρ.set 4 (.d (eLot a))) (ed_var rfl) (fun a _ => nl_Lot a) (fun i ρ => ∃ s s', ρ = [.d (eTree n ns), .d (eLot lot), .d (eLot (putBase ns lot)), .l p ((F ++ (ns.take i).map fun nest => if grown ns lot nest = true then nest ++ [n] else nest).map eLot), s, .d (eI n), .d (eLots ns), .d (eLot [n]), .d (.bool (standsL ns lot)), s']) ⟨.un, .un, by simp; rfl⟩ (fun Z' ρ' a _ => gt_name (nl_Lot a)) (fun Z' zk' hZ i a ρ' ha hp => ?_) fun ρ' hp => ?_
  · obtain ⟨s, s', rfl⟩ := hp
    have hm := List.mem_of_getElem? ha
    have hi : i < ns.length := (List.getElem?_eq_some_iff.mp ha).1
    refine q_asg (d := .bool (grown ns lot a)) (ed_andV (a := withinL (putBase ns lot) a) (b := !(standsL ns lot && decide (a = putBase ns lot))) (ed_call (ea_cons (ed_var rfl) (ea_cons (ed_var rfl) ea_nil)) ⟨_, _, rfl, by omega, rfl⟩) fun _ => ed_notV (ed_andV (ed_var rfl) fun _ => ed_eqLot (h10 a hm) hb10 (ed_var rfl) (ed_var rfl))) rfl ?_
    refine q_app (p := p) (d := eLot (if grown ns lot a = true then a ++ [n] else a)) rfl (ed_if (b := grown ns lot a) (et_B (ed_var rfl)) (fun h => ?_) (fun h => ?_)) (nl_Lot _) np.b np.s ?_ (by simp [putL]; rfl) ?_
    · rw [if_pos h]
      exact ed_catLot (by have := hll a hm; simp; omega) (ed_var rfl) (ed_var rfl)
    · rw [if_neg (by rw [h]; simp)]; exact ed_var rfl
    · simp; omega
    · refine q_lf ⟨.d (eLot a), .d (.bool (grown ns lot a)), ?_⟩
      rw [List.take_add_one, ha]
      simp
  · obtain ⟨s, s', rfl⟩ := hp
    rw [List.take_length]
    refine q_ret (d := eTree (n + 1) (putInL n ns lot)) (ed_call (ea_cons (ed_addN (b := 1) (ed_var rfl) ed_int) (ea_cons (ed_varL rfl) ea_nil)) ⟨n + 1, _, rfl, ?_, ?_⟩) fun v H' e _ h => hD v H' e h
    · simp; omega
    · unfold putInL putRaw
      rw [hF]
/-! need_forked -/
def R_need_forked (ds : List PyData) (d : PyData) : Prop := ∃ (n : Nat) (ns : List Lot), ds = [eTree n ns] ∧ Lt10s ns ∧ ns.length ≤ 900 ∧ (∀ nest ∈ ns, PartsOk (nestB ns) (bitsOf nest) ∧ (partsL ns nest).length = 2) ∧ d = .none
abbrev sp_need_forked (K : PySem.W.Frag) : Sp := spD K R_need_forked
theorem len_need_forked : ∀ ds d, R_need_forked ds d → ds.length = 1 := by rintro ds d ⟨n, ns, rfl, _⟩; rfl
-- slots: tree:0 nest:1  level 6
abbrev N_need_forked : List Str := ["tree", "nest"]
theorem sc_need_forked : FnScope N_need_forked ["tree"] (defScope s_need_forked) := ⟨rfl, rfl, rfl, by decide +kernel, rfl, by decide +kernel, by decide +kernel⟩
theorem bd_need_forked : BindsBy "need_forked" s_need_forked ["tree"] := fun _ _ _ _ _ _ us hl => match us, hl with | [_], _ => rfl
theorem ok_need_forked (F : Here K mg "need_forked" s_need_forked) (bs : Bs mg) (h_parts : Ok P w K mg base 5 "parts" ["tree", "nest"] (sp_parts K)) : Ok P w K mg base 6 "need_forked" ["tree"] (sp_need_forked K) := by
  have nd := sc_need_forked.nd
  refine mkG F sc_need_forked bd_need_forked (lenD len_need_forked) fun f cdv A outer s H E hg hr => ⟨_, (pss_cons (ps_for PassesOwn.never rfl (pi_tk K rfl (pe_ix (ix_tk K rfl) (pv 0) pe_int (fun _ _ => rfl))) (pg_name (i := 1) nd rfl (Or.inl rfl)) (pss_cons (ps_if (pt_cmpR (op_nek K rfl hr.units) (pe_callB (cr_lenk K rfl) rfl bs.len boot_len (pa_cons (pe_callN h_parts hg hr rfl (pa_cons (pv 0) (pa_cons (pv 1) pa_nil))) pa_nil)) pe_int (nomark _)) pss_never pss_nil)
    pss_nil))
    pss_nil), runN (fun ds d h => by obtain ⟨_, _, _, _, _, _, h⟩ := h; exact h) fun B ds hR D hD => ?_⟩
  obtain ⟨n, ns, rfl, h10, hl, hp2, _⟩ := hR
  refine q_forT (xs := ns) (enc := eLot) (ρn := fun ρ a => ρ.set 1 (.d (eLot a))) (ed_nests (ed_var rfl)) (fun a _ => nl_Lot a) (fun i ρ => ∃ s, ρ = [.d (eTree n ns), s]) ⟨.un, rfl⟩ (fun Z' ρ' a _ => gt_name (nl_Lot a)) (fun Z' zk' hZ i a ρ' ha hp => ?_) fun ρ' hp => ?_
  · obtain ⟨s, rfl⟩ := hp
    have hm := List.mem_of_getElem? ha
    refine q_if (b := false) (et_is (et_test (ed_neN (b := 2) (ed_lenLots (ed_call (ea_cons (ed_var rfl) (ea_cons (ed_var rfl) ea_nil)) ⟨n, ns, a, rfl, h10, hl, hm, (hp2 a hm).1, rfl⟩)) ed_int)) (by rw [(hp2 a hm).2]; rfl)) (fun h => nomatch h) (fun _ => q_next (q_next (q_lf ⟨.d (eLot a), rfl⟩)))
  · exact q_end fun σ H a => hD σ H a.eb
/-! nests_left -/
def R_nests_left (ds : List PyData) (es : List PyData) : Prop := ∃ (n : Nat) (ns : List Lot) (lot : Lot), ds = [eTree n ns, eLot lot] ∧ ns.length ≤ 900 ∧ (∀ l ∈ ns, l.length ≤ 1000) ∧ es = (leftL ns lot).map eLot
abbrev sp_nests_left (K : PySem.W.Frag) : Sp := spL K R_nests_left
theorem len_nests_left : ∀ ds d, R_nests_left ds d → ds.length = 2 := by rintro ds d ⟨n, ns, l, rfl, _⟩; rfl
-- slots: tree:0 lot:1 found:2 nest:3 rest:4  level 2
abbrev N_nests_left : List Str := ["tree", "lot", "found", "nest", "rest"]
theorem sc_nests_left : FnScope N_nests_left ["tree", "lot"] (defScope s_nests_left) := ⟨rfl, rfl, rfl, by decide +kernel, rfl, by decide +kernel, by decide +kernel⟩
theorem bd_nests_left : BindsBy "nests_left" s_nests_left ["tree", "lot"] := fun _ _ _ _ _ _ us hl => match us, hl with | [_, _], _ => rfl
theorem ok_nests_left (F : Here K mg "nests_left" s_nests_left) (bs : Bs mg) (h_less : Ok P w K mg base 1 "less" ["lot", "other"] (sp_less K)) : Ok P w K mg base 2 "nests_left" ["tree", "lot"] (sp_nests_left K) := by
  have nd := sc_nests_left.nd
  refine mkG F sc_nests_left bd_nests_left (lenL len_nests_left) fun f cdv A outer s H E hg hr => ⟨_, (pss_cons (ps_set (i := 2) nd rfl (Or.inl rfl) pe_dnewN)
    (pss_cons (ps_for PassesOwn.never rfl (pi_tk K rfl (pe_ix (ix_tk K rfl) (pv 0) pe_int (fun _ _ => rfl))) (pg_name (i := 3) nd rfl (Or.inl rfl)) (pss_cons (ps_set (i := 4) nd rfl (Or.inl rfl) (pe_callN h_less hg hr rfl (pa_cons (pv 3) (pa_cons (pv 1) pa_nil))))
    (pss_cons (ps_if (pt_cmpR op_gt (pe_callB (cr_lenk K rfl) rfl bs.len boot_len (pa_cons (pv 4) pa_nil)) pe_int (nomark _)) (pss_cons (ps_nput hr.units (pv 2) (pv 4) pe_bl rfl)
    pss_nil) pss_nil)
    pss_nil)))
    (pss_cons (ps_ret (pe_callTy (cr_listN rfl) rfl bs.list boot_list (pa_cons (pv 2) pa_nil)))
    pss_nil))), runL fun B ds es hR D hD => ?_⟩
  obtain ⟨n, ns, lot, rfl, hl, hll, rfl⟩ := hR
  refine q_asgK (P := P) (w := w) ek_new fun p np => ?_
  refine q_forT (xs := ns) (enc := eLot) (ρn := fun ρ a => ρ.set 3 (.d (eLot a))) (ed_nests (ed_var rfl)) (fun a _ => nl_Lot a) (fun i ρ => ∃ s s', ρ = [.d (eTree n ns), .d (eLot lot), .k p P w (((ns.take i).foldl (leftStep lot) []).map fun x => (eLot x, .bool true)), s, s']) ⟨.un, .un, rfl⟩ (fun Z' ρ' a _ => gt_name (nl_Lot a)) (fun Z' zk' hZ i a ρ' ha hp => ?_) fun ρ' hp => ?_
  · obtain ⟨s, s', rfl⟩ := hp
    have hm := List.mem_of_getElem? ha
    have hlen : ((ns.take i).foldl (leftStep lot) []).length ≤ 900 := by
      have h1 := left_len (lot := lot) (ns := ns.take i) (acc := [])
      have h2 : (ns.take i).length ≤ ns.length := by rw [List.length_take]; omega
      have h3 : ([] : List Lot).length = 0 := rfl
      omega
    have et : (ns.take (i + 1)).foldl (leftStep lot) [] = leftStep lot ((ns.take i).foldl (leftStep lot) []) a := by
      rw [List.take_add_one, ha, List.foldl_append]; rfl
    generalize (ns.take i).foldl (leftStep lot) [] = acc at et hlen ⊢
    refine q_asg (d := eLot (lessL a lot)) (ed_call (ea_cons (ed_var rfl) (ea_cons (ed_var rfl) ea_nil)) ⟨a, lot, rfl, by have := hll a hm; omega, rfl⟩) (nl_Lot _) ?_
    refine q_if (b := decide (1 < (lessL a lot).length)) (et_test (ed_gtN (ed_lenLot (ed_var rfl)) ed_int)) (fun h => ?_) (fun h => ?_)
    · refine q_put (p := p) rfl (ed_var rfl) ed_bl (keyOk_lot _) rfl np.b np.s (by simp; omega) (by simp [putL]; rfl) ?_
      refine q_next (q_lf ⟨.d (eLot a), .d (eLot (lessL a lot)), ?_⟩)
      rw [putD_lot, et, show leftStep lot acc a = dstep acc (lessL a lot) from if_pos (of_decide_eq_true h)]
      rfl
    · refine q_next (q_next (q_lf ⟨.d (eLot a), .d (eLot (lessL a lot)), ?_⟩))
      rw [et, show leftStep lot acc a = acc from if_neg (of_decide_eq_false h)]
      rfl
  · obtain ⟨s, s', rfl⟩ := hp
    rw [List.take_length]
    exact q_retL (ds := (leftL ns lot).map eLot) (el_is (el_listNv rfl) (by rw [List.map_map]; rfl)) hD
/-! cut_and_put -/
def R_cut_and_put (ds : List PyData) (d : PyData) : Prop := ∃ (n : Nat) (ns : List Lot) (a b : Nat), ds = [eTree n ns, eLot [a], eLot [b]] ∧ n ≠ 1 ∧ a < 10 ∧ b < 10 ∧ a ≠ b ∧ Lt10s ns ∧ ns.length ≤ 400 ∧ (∀ l ∈ ns, l.length ≤ 40) ∧ (∀ nest ∈ ns, PartsOk (nestB ns) (bitsOf nest) ∧ (partsL ns nest).length = 2) ∧ d = eTree n (cutPutL ns a b)
abbrev sp_cut_and_put (K : PySem.W.Frag) : Sp := spD K R_cut_and_put
theorem len_cut_and_put : ∀ ds d, R_cut_and_put ds d → ds.length = 3 := by rintro ds d ⟨n, ns, a, b, rfl, _⟩; rfl
-- slots: tree:0 lot:1c place:2 left:3 found:4 nest:5 size:6 nests:7  level 7
abbrev N_cut_and_put : List Str := ["tree", "lot", "place", "left", "found", "nest", "size", "nests"]
theorem sc_cut_and_put : FnScope N_cut_and_put ["tree", "lot", "place"] (defScope s_cut_and_put) := ⟨rfl, rfl, rfl, by decide +kernel, rfl, by decide +kernel, by decide +kernel⟩
theorem bd_cut_and_put : BindsBy "cut_and_put" s_cut_and_put ["tree", "lot", "place"] := fun _ _ _ _ _ _ us hl => match us, hl with | [_, _, _], _ => rfl
theorem ok_cut_and_put (F : Here K mg "cut_and_put" s_cut_and_put) (bs : Bs mg) (h_is_within : Ok P w K mg base 1 "is_within" ["lot", "other"] (sp_is_within K)) (h_joined : Ok P w K mg base 1 "joined" ["lot", "other"] (sp_joined K)) (h_need_forked : Ok P w K mg base 6 "need_forked" ["tree"] (sp_need_forked K)) (h_nests_left : Ok P w K mg base 2 "nests_left" ["tree", "lot"] (sp_nests_left K)) (h_stands_in : Ok P w K mg base 1 "stands_in" ["tree", "lot"] (sp_stands_in K)) (h_with_nests : Ok P w K mg base 5 "with_nests" ["size", "nests"] (sp_with_nests K)) : Ok P w K mg base 7 "cut_and_put" ["tree", "lot", "place"] (sp_cut_and_put K) := by
  have nd := sc_cut_and_put.nd
  refine mkG F sc_cut_and_put bd_cut_and_put (lenD len_cut_and_put) fun f cdv A outer s H E hg hr => ⟨_, (pss_cons (ps_expr (pe_callN h_need_forked hg hr rfl (pa_cons (pv 0) pa_nil)))
    (pss_cons (ps_asg (pv 0) (pg_tup rfl (pgs_cons (pg_name (i := 6) nd rfl (Or.inl rfl)) (pgs_cons (pg_name (i := 7) nd rfl (Or.inl rfl)) pgs_nil))))
    (pss_cons (ps_if (PW.pt (pw_or (pt_not (pt_val (pe_callN h_stands_in hg (hr.mono (by decide)) rfl (pa_cons (pv 0) (pa_cons (pv 1) pa_nil))))) (pw_or1 (pt_cmpR (op_eqk K rfl hr.units) (pe_callB (cr_lenk K rfl) rfl bs.len boot_len (pa_cons (pv 1) pa_nil)) (pv 6) (nomark _))))) pss_never pss_nil)
    (pss_cons (ps_set (i := 3) nd rfl (Or.inl rfl) (pe_callN h_nests_left hg (hr.mono (by decide)) rfl (pa_cons (pv 0) (pa_cons (pv 1) pa_nil))))
    (pss_cons (ps_if (PW.pt (pw_and (pt_cmpR (op_nik K rfl (hu65 hr)) (pv 2) (pv 3) (by with_unfolding_all rfl)) (pw_and1 (PW.pt (pw_or (pt_cmpR (op_nek K rfl hr.units) (pe_callB (cr_lenk K rfl) rfl bs.len boot_len (pa_cons (pv 2) pa_nil)) pe_int (nomark _)) (pw_or1 (pt_cmpR (op_ink K rfl (hu65 hr)) (pe_ix (ix_tk K rfl) (pv 2) pe_int (fun _ _ => rfl)) (pv 1) (by with_unfolding_all rfl)))))))) pss_never pss_nil)
    (pss_cons (ps_set (i := 4) nd rfl (Or.inl rfl) (pe_op op_cat (pe_lc (own := [("nest", 5)]) rfl nd (pi_tk K rfl (pv 7)) (blk1 rfl rfl rfl rfl rfl) (fun _ _ _ _ _ => pg_name (i := 5) nd rfl (by first | exact Or.inl rfl | exact Or.inr rfl)) (fun _ _ _ _ _ => pts_one (pt_val (pe_callN h_is_within hg (hr.mono (by decide)) rfl (pa_cons (pv 5) (pa_cons (pv 1) pa_nil))))) (fun _ _ _ _ _ => (pv 5))) (pe_lst (pa_cons (pe_callN h_joined hg (hr.mono (by decide)) rfl (pa_cons (pv 1) (pa_cons (pv 2) pa_nil))) pa_nil))))
    (pss_cons (ps_for PassesOwn.never rfl (pi_lk K rfl (pv 3)) (pg_name (i := 5) nd rfl (Or.inl rfl)) (pss_cons (ps_expr (pe_bm PySem.F.plainAttrs_list PySem.F.slot_list_append PySem.F.type_list_append mt_append (pv 4) (pa_cons (pe_ifExp (PW.pt (pw_and (pt_val (pe_callN h_is_within hg (hr.mono (by decide)) rfl (pa_cons (pv 2) (pa_cons (pv 5) pa_nil)))) (pw_and1 (pt_cmpR (op_nek K rfl hr.units) (pv 5) (pv 2) (nomark _))))) (pe_callN h_joined hg (hr.mono (by decide)) rfl (pa_cons (pv 5) (pa_cons (pv 1) pa_nil))) (pv 5)) pa_nil)))
    pss_nil))
    (pss_cons (ps_ret (pe_callN h_with_nests hg (hr.mono (by decide)) rfl (pa_cons (pv 6) (pa_cons (pv 4) pa_nil))))
    pss_nil)))))))), runD fun B ds d hR D hD => ?_⟩
  obtain ⟨n, ns, a, b, rfl, hn1, ha, hb, hab, h10, hl, hll, hp2, rfl⟩ := hR
  have la : Lt10 [a] := fun x hx => by rw [List.mem_singleton.mp hx]; exact ha
  have lb : Lt10 [b] := fun x hx => by rw [List.mem_singleton.mp hx]; exact hb
  have hleft : ∀ x ∈ leftL ns [a], Lt10 x ∧ x.length ≤ 40 := fun x hx => by
    rcases left_mem hx with h | ⟨nest, hn, rfl⟩
    · cases h
    · exact ⟨fun y hy => h10 nest hn y (List.mem_filter.mp hy).1, Nat.le_trans (List.length_filter_le _ _) (hll nest hn)⟩
  have hleftl : (leftL ns [a]).length ≤ 400 := by
    have h1 := left_len (lot := [a]) (ns := ns) (acc := [])
    have h3 : ([] : List Lot).length = 0 := rfl
    unfold leftL; omega
  have hl10 : Lt10s (leftL ns [a]) := fun x hx => (hleft x hx).1
  refine q_drop (ed_call (d := .none) (ea_cons (ed_var rfl) ea_nil) ⟨n, ns, rfl, h10, by omega, hp2, rfl⟩) ?_
  refine q_unp (ed_var (d := eTree n ns) rfl) (gt_tup2 (x := eI n) (y := eLots ns) rfl (nl_Lots ns)) ?_
  refine q_if (b := false) (et_is (et_or (a := false) (et_is (et_not (et_B (ed_call (ea_cons (ed_var rfl) (ea_cons (ed_var rfl) ea_nil)) ⟨n, ns, [a], rfl, h10, la, rfl⟩))) (by simp [standsL])) fun _ => et_test (ed_eqN (ed_lenLot (l := [a]) (ed_var rfl)) (ed_var rfl))) (by simp; omega)) (fun h => nomatch h) (fun _ => q_next ?_)
  refine q_asgL (ds := (leftL ns [a]).map eLot) (el_call (ea_cons (ed_var rfl) (ea_cons (ed_var rfl) ea_nil)) ⟨n, ns, [a], rfl, by omega, fun l h => by have := hll l h; omega, rfl⟩) (nls_Lot _) fun p np => ?_
  refine q_if (b := false) (et_is (et_and (b := false) (et_test (ed_niLotsL lb hl10 (ed_var rfl) (ed_varL rfl))) fun _ => et_is (et_or (a := false) (et_is (et_test (ed_neN (b := 1) (ed_lenLot (l := [b]) (ed_var rfl)) ed_int)) rfl) fun _ => et_test (ed_inLot (x := b) (l := [a]) (ed_op (ed_var rfl) ed_int (rd_ixT (ds := [eI b]) (i := 0) rfl)) (ed_var rfl))) (by simp; omega)) (by simp)) (fun h => nomatch h) (fun _ => q_next ?_)
  have hf1 : (ns.filter fun nest => withinL nest [a]).length ≤ 400 := Nat.le_trans (List.length_filter_le _ _) hl
  refine q_asgL (ds := (ns.filter (fun nest => withinL nest [a]) ++ [joinL [a] [b]]).map eLot) (el_is (el_catLL (ds := (ns.filter (fun nest => withinL nest [a])).map eLot) (es := [eLot (joinL [a] [b])]) (el_lcT (xs := ns) (enc := eLot) (f := eLot) (keep := fun nest => withinL nest [a]) (ed_var rfl) (by omega) (fun x _ => nl_Lot x) (fun x hx => et_B (ed_call (ea_cons (ed_var rfl) (ea_cons (ed_var rfl) ea_nil)) ⟨x, [a], rfl, by have := hll x hx; omega, rfl⟩)) (fun x _ _ => ed_var rfl) fun x _ _ => nl_Lot x) (el_lst (ea_cons (ed_call (ea_cons (ed_var rfl) (ea_cons (ed_var rfl) ea_nil)) ⟨[a], [b], rfl, by simp, rfl⟩) ea_nil) (by simp)) (by simp; omega)) (by simp)) (nls_Lot _) fun q nq => ?_
  have pq : p ≠ q := nq.a p (by show p ∈ [p]; simp)
  generalize hF : ns.filter (fun nest => withinL nest [a]) ++ [joinL [a] [b]] = F
  have hFl : F.length ≤ 401 := by rw [← hF, List.length_append]; simp; omega
  refine q_forV (xs := leftL ns [a]) (enc := eLot) (p := p) (ρn := fun ρ x => ρ.set 5 (.d (eLot x))) rfl (fun x _ => nl_Lot x) (fun i ρ => ∃ s, ρ = [.d (eTree n ns), .d (eLot [a]), .d (eLot [b]), .l p ((leftL ns [a]).map eLot), .l q ((F ++ ((leftL ns [a]).take i).map fun nest => if (withinL [b] nest && decide (nest ≠ [b])) = true then joinL nest [a] else nest).map eLot), s, .d (eI n), .d (eLots ns)]) ⟨.un, by simp; rfl⟩ (fun S' Z' ρ' x _ => gt_name (nl_Lot x)) (fun S' Z' zk' hS1 hS2 hZ i x ρ' hx hp => ?_) fun ρ' hp => ?_
  · obtain ⟨s, rfl⟩ := hp
    have hm := List.mem_of_getElem? hx
    have hi : i < (leftL ns [a]).length := (List.getElem?_eq_some_iff.mp hx).1
    have nqS : ¬ S' q := fun h => by
      rcases hS1 q h with h | h
      · exact nq.s h
      · exact pq h.symm
    refine q_app (p := q) (d := eLot (if (withinL [b] x && decide (x ≠ [b])) = true then joinL x [a] else x)) rfl (ed_if (b := withinL [b] x && decide (x ≠ [b])) (et_and (et_B (ed_call (ea_cons (ed_var rfl) (ea_cons (ed_var rfl) ea_nil)) ⟨[b], x, rfl, by simp, rfl⟩)) fun _ => et_test (ed_neLot (hl10 x hm) lb (ed_var rfl) (ed_var rfl))) (fun h => ?_) (fun h => ?_)) (nl_Lot _) nq.b nqS ?_ (by simp [putL, pq]; rfl) ?_
    · rw [if_pos h]
      exact ed_call (ea_cons (ed_var rfl) (ea_cons (ed_var rfl) ea_nil)) ⟨x, [a], rfl, by have := (hleft x hm).2; simp; omega, rfl⟩
    · rw [if_neg (by rw [h]; simp)]; exact ed_var rfl
    · simp; omega
    · refine q_lf ⟨.d (eLot x), ?_⟩
      rw [List.take_add_one, hx]
      simp
  · obtain ⟨s, rfl⟩ := hp
    rw [List.take_length]
    refine q_ret (d := eTree n (cutPutL ns a b)) (ed_call (ea_cons (ed_var rfl) (ea_cons (ed_varL rfl) ea_nil)) ⟨n, _, rfl, ?_, ?_⟩) fun v H' e _ h => hD v H' e h
    · simp; omega
    · unfold cutPutL cutRaw
      rw [hF]
end
end Fk
/-! the walks, 9: the greatest sum -/
namespace Fk
open PySem PySem.Spec PyProof.Rows L2
/-- one row more: none of it, or one item at a free place -/
def stepR (R : Nat → Nat → Prop) (row : List Nat) : Nat → Nat → Prop := fun u s => R u s ∨ ∃ u0 s0 j v, R u0 s0 ∧ row[j]? = some v ∧ u0.testBit j = false ∧ u = u0 ||| (1 <<< j) ∧ s = s0 + v
def Ach (rows : List (List Nat)) : Nat → Nat → Prop := rows.foldl stepR fun u s => u = 0 ∧ s = 0
def IsGS (rows : List (List Nat)) (m : Nat) : Prop := (∃ u, Ach rows u m) ∧ ∀ u s, Ach rows u s → s ≤ m
def geN (es : NN) (x t : Nat) : Prop := ∃ t', lookN es x = some t' ∧ t ≤ t'
theorem look_put (es : NN) (x t y : Nat) : lookN (putN es x t) y = if y = x then some t else lookN es y := by
  have h := valV_put (kvI es) (.inl (x : Int)) (.inl (y : Int)) (.int (t : Int))
  rw [putK_kvI, valV_kvI, valV_kvI] at h
  by_cases e : y = x
  · subst e
    rw [if_pos rfl] at h
    rw [if_pos rfl]
    cases q : lookN (putN es y t) y with
    | none => rw [q] at h; cases h
    | some a =>
      rw [q] at h
      have h : (a : Int) = t := by simpa using h
      rw [Int.ofNat_inj.mp h]
  · rw [if_neg fun z => e ((key_eq _ _).mp z)] at h
    rw [if_neg e]
    cases q : lookN (putN es x t) y with
    | none =>
      rw [q] at h
      cases q2 : lookN es y with
      | none => rfl
      | some a => rw [q2] at h; cases h
    | some a =>
      rw [q] at h
      cases q2 : lookN es y with
      | none => rw [q2] at h; cases h
      | some b =>
        rw [q2] at h
        have h : (a : Int) = b := by simpa using h
        rw [Int.ofNat_inj.mp h]
theorem look_mem {es : NN} {x s : Nat} (h : lookN es x = some s) : (x, s) ∈ es := by
  unfold lookN at h
  obtain ⟨e, he, rfl⟩ := Option.map_eq_some_iff.mp h
  have h1 := List.find?_some he
  have h2 : e.1 = x := by simpa using h1
  rw [← h2]
  exact List.mem_of_find?_eq_some he
theorem look_of {es : NN} {e : Nat × Nat} (nd : (es.map (·.1)).Nodup) (h : e ∈ es) : lookN es e.1 = some e.2 := by
  induction es with
  | nil => cases h
  | cons a es ih =>
    rw [List.map_cons, List.nodup_cons] at nd
    unfold lookN at ih ⊢
    rw [List.find?_cons]
    rcases List.mem_cons.mp h with e1 | h
    · subst e1; simp
    · have hne : ¬ a.1 = e.1 := fun z => nd.1 (z ▸ List.mem_map.mpr ⟨e, h, rfl⟩)
      simpa [hne] using ih nd.2 h
theorem look_none {es : NN} {x : Nat} (h : lookN es x = none) : x ∉ es.map (·.1) := by
  intro hm
  obtain ⟨e, he, rfl⟩ := List.mem_map.mp hm
  unfold lookN at h
  rw [Option.map_eq_none_iff, List.find?_eq_none] at h
  exact absurd (decide_eq_true rfl) (h e he)
theorem put_keys {es : NN} {x t : Nat} : (putN es x t).map (·.1) = if (lookN es x).isSome = true then es.map (·.1) else es.map (·.1) ++ [x] := by
  unfold putN
  split
  · rw [List.map_map]
    refine List.map_congr_left fun e _ => ?_
    show (if e.1 = x then (e.1, t) else e).1 = e.1
    split <;> rfl
  · rw [List.map_append]; rfl
theorem put_nodup {es : NN} {x t : Nat} (nd : (es.map (·.1)).Nodup) : ((putN es x t).map (·.1)).Nodup := by
  rw [put_keys]
  split
  · exact nd
  · rename_i h
    rw [List.nodup_append]
    refine ⟨nd, by simp, fun a ha b hb => ?_⟩
    rw [List.mem_singleton.mp hb]
    intro e
    rw [e] at ha
    have : lookN es x = none := by simpa using h
    exact look_none this ha
theorem nodup_lt : ∀ {n : Nat} {l : List Nat}, l.Nodup → (∀ x ∈ l, x < n) → l.length ≤ n
  | 0, l, _, h => by
    cases l with
    | nil => simp
    | cons x l => exact absurd (h x List.mem_cons_self) (Nat.not_lt_zero _)
  | n + 1, l, nd, h => by
    by_cases hm : n ∈ l
    · have h1 := List.length_erase_of_mem hm
      have h2 := nodup_lt (n := n) (l := l.erase n) (nd.erase n) fun x hx => by
        have h3 := (nd.mem_erase_iff).mp hx
        have := h x h3.2
        have h4 := h3.1
        omega
      omega
    · have := nodup_lt (n := n) nd fun x hx => by
        have := h x hx
        have : x ≠ n := fun e => hm (e ▸ hx)
        omega
      omega
structure GoodN (R : Nat → Nat → Prop) (es : NN) : Prop where
  nd : (es.map (·.1)).Nodup
  so : ∀ u s, lookN es u = some s → R u s
  co : ∀ u s, R u s → geN es u s
/-- while a row is gone through: the pairs before k, and of the pair at k the items before c -/
structure MidN (R : Nat → Nat → Prop) (row : List Nat) (es : NN) (k c : Nat) (f : NN) : Prop where
  nd : (f.map (·.1)).Nodup
  so : ∀ u s, lookN f u = some s → stepR R row u s
  old : ∀ u s, lookN es u = some s → geN f u s
  pre : ∀ k' u s, k' < k → es[k']? = some (u, s) → ∀ j v, row[j]? = some v → u.testBit j = false → geN f (u ||| (1 <<< j)) (s + v)
  cur : ∀ u s, es[k]? = some (u, s) → ∀ j v, j < c → row[j]? = some v → u.testBit j = false → geN f (u ||| (1 <<< j)) (s + v)
theorem geN.put {f : NN} {x t y s : Nat} (h : geN f y s) (hx : ∀ a, lookN f x = some a → a ≤ t) : geN (putN f x t) y s := by
  obtain ⟨a, h1, h2⟩ := h
  by_cases e : y = x
  · subst e
    exact ⟨t, by rw [look_put, if_pos rfl], Nat.le_trans h2 (hx a h1)⟩
  · exact ⟨a, by rw [look_put, if_neg e]; exact h1, h2⟩
theorem or_ne {u j : Nat} : ((u ||| (1 <<< j)) = u) ↔ u.testBit j = true := by
  constructor
  · intro h
    rw [← h, Nat.testBit_or, Nat.one_shiftLeft, Nat.testBit_two_pow_self]; simp
  · intro h
    apply Nat.eq_of_testBit_eq
    intro i
    rw [Nat.testBit_or, Nat.one_shiftLeft]
    by_cases e : j = i
    · subst e; rw [h]; simp
    · rw [Nat.testBit_two_pow_of_ne e]; simp
theorem ach_lt {rows : List (List Nat)} (h : ∀ row ∈ rows, row.length ≤ 10) : ∀ u s, Ach rows u s → u < 1024 := by
  have gen : ∀ (rows : List (List Nat)) (R : Nat → Nat → Prop), (∀ row ∈ rows, row.length ≤ 10) → (∀ u s, R u s → u < 1024) → ∀ u s, rows.foldl stepR R u s → u < 1024 := by
    intro rows
    induction rows with
    | nil => intro R _ hR u s h; exact hR u s h
    | cons row rows ih =>
      intro R hl hR u s hh
      refine ih (stepR R row) (fun r hr => hl r (List.mem_cons_of_mem _ hr)) (fun u s hs => ?_) u s hh
      rcases hs with hs | ⟨u0, s0, j, v, h0, hj, _, rfl, _⟩
      · exact hR u s hs
      · have h1 := (List.getElem?_eq_some_iff.mp hj).1
        have h2 := hl row List.mem_cons_self
        refine Nat.or_lt_two_pow (n := 10) (hR u0 s0 h0) ?_
        rw [Nat.one_shiftLeft]
        exact Nat.pow_lt_pow_right (by decide) (by omega)
  exact gen rows _ h fun u s h => by rw [h.1]; decide
theorem GoodN.len {R : Nat → Nat → Prop} {es : NN} (g : GoodN R es) (h : ∀ u s, R u s → u < 1024) : es.length ≤ 1024 := by
  have := nodup_lt (n := 1024) g.nd fun x hx => by
    obtain ⟨e, he, rfl⟩ := List.mem_map.mp hx
    exact h _ _ (g.so _ _ (look_of g.nd he))
  simpa using this
theorem Mid.start {R : Nat → Nat → Prop} {row : List Nat} {es : NN} (g : GoodN R es) : MidN R row es 0 0 es :=
  ⟨g.nd, fun u s h => .inl (g.so u s h), fun u s h => ⟨s, h, Nat.le_refl _⟩, fun k' u s h => absurd h (Nat.not_lt_zero _), fun u s _ j v h => absurd h (Nat.not_lt_zero _)⟩
theorem Mid.next {R : Nat → Nat → Prop} {row : List Nat} {es f : NN} {k : Nat} (m : MidN R row es k row.length f) : MidN R row es (k + 1) 0 f :=
  ⟨m.nd, m.so, m.old, fun k' u s h he j v hj hb => by
    by_cases e : k' = k
    · subst e
      exact m.cur u s he j v (List.getElem?_eq_some_iff.mp hj).1 hj hb
    · exact m.pre k' u s (by omega) he j v hj hb, fun u s _ j v h => absurd h (Nat.not_lt_zero _)⟩
theorem Mid.skip {R : Nat → Nat → Prop} {row : List Nat} {es f : NN} {k c u s v : Nat} (m : MidN R row es k c f) (he : es[k]? = some (u, s)) (hc : row[c]? = some v) (h : u.testBit c = true ∨ geN f (u ||| (1 <<< c)) (s + v)) : MidN R row es k (c + 1) f :=
  ⟨m.nd, m.so, m.old, m.pre, fun u' s' he' j v' hj hv hb => by
    by_cases e : j = c
    · subst e
      rw [he] at he'; cases he'
      rw [hc] at hv; cases hv
      rcases h with h | h
      · rw [h] at hb; cases hb
      · exact h
    · exact m.cur u' s' he' j v' (by omega) hv hb⟩
theorem Mid.put {R : Nat → Nat → Prop} {row : List Nat} {es f : NN} {k c u s v : Nat} (g : GoodN R es) (m : MidN R row es k c f) (he : es[k]? = some (u, s)) (hc : row[c]? = some v) (hb : u.testBit c = false) (hx : ∀ a, lookN f (u ||| (1 <<< c)) = some a → a < s + v) : MidN R row es k (c + 1) (putN f (u ||| (1 <<< c)) (s + v)) := by
  have hx' : ∀ a, lookN f (u ||| (1 <<< c)) = some a → a ≤ s + v := fun a h => Nat.le_of_lt (hx a h)
  have here : geN (putN f (u ||| (1 <<< c)) (s + v)) (u ||| (1 <<< c)) (s + v) := ⟨s + v, by rw [look_put, if_pos rfl], Nat.le_refl _⟩
  refine ⟨put_nodup m.nd, fun u' s' h => ?_, fun u' s' h => (m.old u' s' h).put hx', fun k' u' s' h e' j v' hj hb' => (m.pre k' u' s' h e' j v' hj hb').put hx', fun u' s' he' j v' hj hv hb' => ?_⟩
  · rw [look_put] at h
    by_cases e : u' = u ||| (1 <<< c)
    · rw [if_pos e] at h
      cases h
      have hl := look_of g.nd (List.mem_of_getElem? he)
      exact .inr ⟨u, s, c, v, g.so _ _ hl, hc, hb, e, rfl⟩
    · rw [if_neg e] at h
      exact m.so u' s' h
  · by_cases e : j = c
    · subst e
      rw [he] at he'; cases he'
      rw [hc] at hv; cases hv
      exact here
    · exact (m.cur u' s' he' j v' (by omega) hv hb').put hx'
theorem Mid.done {R : Nat → Nat → Prop} {row : List Nat} {es f : NN} (g : GoodN R es) (m : MidN R row es es.length 0 f) : GoodN (stepR R row) f := by
  refine ⟨m.nd, m.so, fun u s h => ?_⟩
  rcases h with h | ⟨u0, s0, j, v, h0, hj, hb, rfl, rfl⟩
  · obtain ⟨t, h1, h2⟩ := g.co u s h
    obtain ⟨t', h3, h4⟩ := m.old u t h1
    exact ⟨t', h3, Nat.le_trans h2 h4⟩
  · obtain ⟨t, h1, h2⟩ := g.co u0 s0 h0
    obtain ⟨k, hk⟩ := List.getElem?_of_mem (look_mem h1)
    obtain ⟨t', h3, h4⟩ := m.pre k u0 t (List.getElem?_eq_some_iff.mp hk).1 hk j v hj hb
    exact ⟨t', h3, by omega⟩
theorem maxI_nat {l : List Nat} (h : l ≠ []) : ∃ m ∈ l, maxI (l.map fun x : Nat => (x : Int)) = (m : Int) ∧ ∀ y ∈ l, y ≤ m := by
  have h' : (l.map fun x : Nat => (x : Int)) ≠ [] := by simpa using h
  obtain ⟨m, hm, e⟩ := List.mem_map.mp (maxI_mem h')
  refine ⟨m, hm, e.symm, fun y hy => ?_⟩
  have := maxI_ge (ns := l.map fun x : Nat => (x : Int)) (y := (y : Int)) (List.mem_map.mpr ⟨y, hy, rfl⟩)
  rw [← e] at this
  exact Int.ofNat_le.mp this
section
variable {P : Program} {w : World} {K : PySem.W.Frag} {mg : Str → Option Value} {base : Heap} {B : Hp} {ρ : List Sl} {te tf : TE}
def eRow (r : List Nat) : PyData := .list (r.map eI)
def R_greatest_sum (ds : List PyData) (d : PyData) : Prop := ∃ (rows : List (List Nat)) (m : Nat), ds = [.list (rows.map eRow)] ∧ (∀ row ∈ rows, row.length ≤ 10) ∧ IsGS rows m ∧ d = eI m
abbrev sp_greatest_sum (K : PySem.W.Frag) : Sp := spD K R_greatest_sum
theorem len_greatest_sum : ∀ ds d, R_greatest_sum ds d → ds.length = 1 := by rintro ds d ⟨n, ns, rfl, _⟩; rfl
-- slots: rows:0 best:1c row:2 further:3 used:4 column:5 number:6 bits:7  level 1
abbrev N_greatest_sum : List Str := ["rows", "best", "row", "further", "used", "column", "number", "bits"]
theorem sc_greatest_sum : FnScope N_greatest_sum ["rows"] (defScope s_greatest_sum) := ⟨rfl, rfl, rfl, by decide +kernel, rfl, by decide +kernel, by decide +kernel⟩
theorem bd_greatest_sum : BindsBy "greatest_sum" s_greatest_sum ["rows"] := fun _ _ _ _ _ _ us hl => match us, hl with | [_], _ => rfl
theorem ok_greatest_sum (F : Here K mg "greatest_sum" s_greatest_sum) (bs : Bs mg) : Ok P w K mg base 1 "greatest_sum" ["rows"] (sp_greatest_sum K) := by
  have nd := sc_greatest_sum.nd
  refine mkG F sc_greatest_sum bd_greatest_sum (lenD len_greatest_sum) fun f cdv A outer s H E hg hr => ⟨_, (pss_cons (ps_set (i := 1) nd rfl (Or.inr rfl) (pe_disp (pps_cons pe_int pe_int pps_nil) rfl rfl (by decide) (by decide)))
    (pss_cons (ps_for PassesOwn.never rfl (pi_lk K rfl (pv 0)) (pg_name (i := 2) nd rfl (Or.inl rfl)) (pss_cons (ps_set (i := 3) nd rfl (Or.inl rfl) (pe_callTy (cr_dictC) rfl bs.dict boot_dict (pa_cons (pv 1) pa_nil)))
    (pss_cons (ps_for PassesOwn.never rfl (pi_lk K rfl (pe_callTy (cr_listI rfl) rfl bs.list boot_list (pa_cons (pv 1) pa_nil))) (pg_name (i := 4) nd rfl (Or.inl rfl)) (pss_cons (ps_for PassesOwn.never rfl (pi_enum rfl bs.enumerate (pa_cons (pv 2) pa_nil)) (pg_tup rfl (pgs_cons (pg_name (i := 5) nd rfl (Or.inl rfl)) (pgs_cons (pg_name (i := 6) nd rfl (Or.inl rfl)) pgs_nil))) (pss_cons (ps_set (i := 7) nd rfl (Or.inl rfl) (pe_op op_or (pv 4) (pe_op op_shl pe_int (pv 5))))
    (pss_cons (ps_if (PW.pt (pw_and (pt_cmpR (op_nek K rfl hr.units) (pv 7) (pv 4) (nomark _)) (pw_and1 (pt_cmpR op_gt (pe_op op_add (pe_dget (hu_of hr) (pv 1) (pv 4) (fun _ _ => rfl)) (pv 6)) (pe_dget2 (hu_of hr) (pv 3) (pv 7) (pe_un un_neg pe_int) ⟨rfl, rfl, rfl, rfl⟩) (nomark _))))) (pss_cons (ps_dput (hu_of hr) (pv 3) (pv 7) (pe_op op_add (pe_dget (hu_of hr) (pv 1) (pv 4) (fun _ _ => rfl)) (pv 6)) rfl)
    pss_nil) pss_nil)
    pss_nil)))
    pss_nil))
    (pss_cons (ps_set (i := 1) nd rfl (Or.inr rfl) (pv 3))
    pss_nil))))
    (pss_cons (ps_ret (pe_callB (cr_maxk K rfl rfl) rfl bs.max (by decide +kernel) (pa_cons (pe_lock (pe_lc (own := [("used", 4)]) rfl nd (pi_keys (pv 1)) (blk1 rfl rfl rfl rfl rfl) (fun _ _ _ _ _ => pg_name (i := 4) nd rfl (by first | exact Or.inl rfl | exact Or.inr rfl)) (fun _ _ _ _ _ => pts_nil) (fun _ _ _ _ _ => (pe_dget (hu_of hr) (pv 1) (pv 4) (fun _ _ => rfl))))) pa_nil)))
    pss_nil))), runD fun B ds d hR D hD => ?_⟩
  obtain ⟨rows, m, rfl, hrl, hgs, rfl⟩ := hR
  have hlt : ∀ i u s, Ach (rows.take i) u s → u < 1024 := fun i => ach_lt fun row hr => hrl row (List.mem_of_mem_take hr)
  refine q_asgH eh_00 fun p0 np0 => ?_
  refine q_forB (xs := rows) (enc := eRow) (i := 0) rfl (fun i ρ => ∃ pb es s2 s3 s4 s5 s6 s7, ρ = [.d (.list (rows.map eRow)), .o pb (.dK (kvI es)), s2, s3, s4, s5, s6, s7] ∧ B pb = none ∧ GoodN (Ach (rows.take i)) es) ⟨p0, [(0, 0)], .un, .un, .un, .un, .un, .un, rfl, np0.b, by simp, fun u s h => by
      have := look_mem h
      simp at this; exact this, fun u s h => by
      obtain ⟨rfl, rfl⟩ := h
      exact ⟨0, rfl, Nat.le_refl _⟩⟩ (fun i row ρ' hrow hp => ?_) fun ρ' hp => ?_
  · obtain ⟨pb, es, s2, s3, s4, s5, s6, s7, rfl, hpb, g⟩ := hp
    have hm := List.mem_of_getElem? hrow
    have et : Ach (rows.take (i + 1)) = stepR (Ach (rows.take i)) row := by
      unfold Ach
      rw [List.take_add_one, hrow, List.foldl_append]; rfl
    have hlt2 := hlt (i + 1)
    rw [et] at hlt2
    have hel := g.len (hlt i)
    refine q_asgH (eh_copy (p := pb) rfl) fun pf npf => ?_
    have hne : pb ≠ pf := npf.a pb (adr_o (i := 1) rfl)
    refine q_forN (xs := es.map (·.1)) (enc := eI) (ρn := fun ρ a => ρ.set 4 (.d (eI a))) (el_listI (p := pb) rfl) (fun _ _ => rfl) (fun k ρ => ∃ f s4 s5 s6 s7, ρ = [.d (.list (rows.map eRow)), .o pb (.dK (kvI es)), .d (eRow row), .o pf (.dK (kvI f)), s4, s5, s6, s7] ∧ MidN (Ach (rows.take i)) row es k 0 f) ⟨es, s4, s5, s6, s7, rfl, Mid.start g⟩ (fun S' Z' ρ' a _ => gt_name rfl) (fun r nr S' Z' zk' hS1 hS2 hZ k u ρ' hu hp => ?_) fun ρ' hp => ?_
    · obtain ⟨f, s4, s5, s6, s7, rfl, mid⟩ := hp
      have nS : ¬ S' pf := fun h => by
        rcases hS1 pf h with h | h
        · exact npf.s h
        · exact nr.a pf (adr_o (i := 3) rfl) h
      obtain ⟨s, hes⟩ : ∃ s, es[k]? = some (u, s) := by
        rw [List.getElem?_map] at hu
        cases q : es[k]? with
        | none => rw [q] at hu; cases hu
        | some e =>
          rw [q] at hu
          have : e.1 = u := by simpa using hu
          exact ⟨e.2, by rw [← this]⟩
      have hlook := look_of g.nd (List.mem_of_getElem? hes)
      refine q_forEB (xs := row) (enc := eI) (n0 := 2) rfl (fun _ _ => rfl) (fun c ρ => ∃ f s5 s6 s7, ρ = [.d (.list (rows.map eRow)), .o pb (.dK (kvI es)), .d (eRow row), .o pf (.dK (kvI f)), .d (eI u), s5, s6, s7] ∧ MidN (Ach (rows.take i)) row es k c f) ⟨f, s5, s6, s7, rfl, mid⟩ (fun c v ρ' hv hp => ?_) fun ρ' hp => ?_
      · obtain ⟨f, s5, s6, s7, rfl, mid⟩ := hp
        have hc10 : c < 10 := Nat.lt_of_lt_of_le (List.getElem?_eq_some_iff.mp hv).1 (hrl row hm)
        have hfl : f.length ≤ 1024 := by
          have := nodup_lt (n := 1024) mid.nd fun x hx => by
            obtain ⟨e, he, rfl⟩ := List.mem_map.mp hx
            exact hlt2 _ _ (mid.so _ _ (look_of mid.nd he))
          simpa using this
        refine q_asg (d := eI (u ||| (1 <<< c))) (ed_op (ed_var rfl) (ed_op (x := eI 1) ed_int (ed_var rfl) (rd_shl ⟨by decide, by omega⟩)) rd_or) rfl ?_
        let c2 : Bool := match lookN f (u ||| (1 <<< c)) with | some a => decide (a < s + v) | none => true
        have hc2 : (match getD2 f (u ||| (1 <<< c)) with | .int i => decide (i < ((s + v : Nat) : Int)) | _ => false) = c2 := by
          show _ = (match lookN f (u ||| (1 <<< c)) with | some a => decide (a < s + v) | none => true)
          unfold getD2
          cases lookN f (u ||| (1 <<< c)) with
          | some a => exact dlt a (s + v)
          | none =>
            show decide ((-1 : Int) < ((s + v : Nat) : Int)) = true
            exact decide_eq_true (by omega)
        have hgi : ∃ i, getD2 f (u ||| (1 <<< c)) = .int i := by
          unfold getD2
          cases lookN f (u ||| (1 <<< c)) with
          | some a => exact ⟨_, rfl⟩
          | none => exact ⟨_, rfl⟩
        obtain ⟨gi, hgi⟩ := hgi
        rw [hgi] at hc2
        refine q_if (b := !u.testBit c && c2) (et_and (et_is (et_test (ed_neN (ed_var rfl) (ed_var rfl))) ?_) fun _ => et_is (et_test (ed_op (ed_addN (ed_dget (p := pb) rfl (ed_var rfl) hlook) (ed_var rfl)) (ed_is (ed_dget2 (p := pf) (es := f) rfl (ed_var rfl) (ed_un ed_int ru_neg)) hgi) rd_gt)) hc2) (fun hb => ?_) (fun hb => ?_)
        · have e := or_ne (u := u) (j := c)
          by_cases q : u.testBit c = true
          · simp [q, e.mpr q]
          · have q' : u.testBit c = false := by simpa using q
            have : ¬ (u ||| (1 <<< c)) = u := fun z => q (e.mp z)
            simp [q', this]
        · rw [Bool.and_eq_true] at hb
          have hb1 : u.testBit c = false := by simpa using hb.1
          have hx : ∀ a, lookN f (u ||| (1 <<< c)) = some a → a < s + v := fun a h => by
            have h2 : c2 = true := hb.2
            have h3 : c2 = decide (a < s + v) := by
              show (match lookN f (u ||| (1 <<< c)) with | some a => decide (a < s + v) | none => true) = _
              rw [h]
            rw [h3] at h2
            exact of_decide_eq_true h2
          refine q_dput (p := pf) (es := f) rfl (ed_var rfl) (ed_addN (ed_dget (p := pb) rfl (ed_var rfl) hlook) (ed_var rfl)) npf.b nS (by omega) (by simp [putL, hne]; rfl) ?_
          exact q_next (q_lf ⟨putN f (u ||| (1 <<< c)) (s + v), _, _, _, rfl, Mid.put g mid hes hv hb1 hx⟩)
        · refine q_next (q_next (q_lf ⟨f, _, _, _, rfl, Mid.skip mid hes hv ?_⟩))
          by_cases q : u.testBit c = true
          · exact .inl q
          · have q' : u.testBit c = false := by simpa using q
            have h2 : c2 = false := by simpa [q'] using hb
            right
            cases h : lookN f (u ||| (1 <<< c)) with
            | none =>
              have h3 : c2 = true := by
                show (match lookN f (u ||| (1 <<< c)) with | some a => decide (a < s + v) | none => true) = _
                rw [h]
              rw [h3] at h2; cases h2
            | some a =>
              have h3 : c2 = decide (a < s + v) := by
                show (match lookN f (u ||| (1 <<< c)) with | some a => decide (a < s + v) | none => true) = _
                rw [h]
              rw [h3] at h2
              exact ⟨a, h, Nat.le_of_not_lt (of_decide_eq_false h2)⟩
      · obtain ⟨f, s5, s6, s7, rfl, mid⟩ := hp
        exact q_lf ⟨f, _, _, _, _, rfl, Mid.next mid⟩
    · obtain ⟨f, s4, s5, s6, s7, rfl, mid⟩ := hp
      rw [List.length_map] at mid
      refine q_asgV (p := pf) rfl (q_lf ⟨pf, f, _, _, _, _, _, _, rfl, npf.b, ?_⟩)
      rw [et]
      exact Mid.done g mid
  · obtain ⟨pb, es, s2, s3, s4, s5, s6, s7, rfl, hpb, g⟩ := hp
    rw [List.take_length] at g
    have hel := g.len (ach_lt hrl)
    have hne : es.map (·.2) ≠ [] := by
      obtain ⟨u, hu⟩ := hgs.1
      obtain ⟨t, h1, _⟩ := g.co u m hu
      intro z
      have := look_mem h1
      rw [List.map_eq_nil_iff.mp z] at this
      cases this
    obtain ⟨m', hm', e', hmax⟩ := maxI_nat hne
    have emm : m' = m := by
      obtain ⟨e, he, rfl⟩ := List.mem_map.mp hm'
      have h1 := hgs.2 _ _ (g.so _ _ (look_of g.nd he))
      obtain ⟨u, hu⟩ := hgs.1
      obtain ⟨t, h2, h3⟩ := g.co u m hu
      have h4 := hmax t (List.mem_map.mpr ⟨(u, t), look_mem h2, rfl⟩)
      omega
    refine q_ret (d := eI m) (ed_is (ed_cb (ea_cons (ed_L (el_is (el_lockV (p := pb) (es := es) rfl (by decide) (by omega) g.nd (by simp)) (map_eI _))) ea_nil) (rc_max (by simpa using hne))) ?_) fun v H' e _ h => hD v H' e h
    rw [e', emm]; rfl
end
end Fk
/-! the walks, 10: the table, the distance -/
namespace Fk
open PySem PySem.Spec PyProof.Rows L2
def ntL (n : Nat) (ns : List Lot) : List Lot := ordL (ns ++ tips n)
def poL (ns : List Lot) (lot : Lot) : List Lot := if 1 < lot.length then partsL ns lot else []
def pairK (a b : Lot) : PyData := .tuple [eLot a, eLot b]
def rowsOf (g : Lot → Lot → Nat) (own other : List Lot) : List (List Nat) := own.map fun p => other.map fun o => g p o
def IsMax (l : List Nat) (m : Nat) : Prop := m ∈ l ∧ ∀ y ∈ l, y ≤ m
def IsPN (g : Lot → Lot → Nat) (lot further : Lot) (own other : List Lot) (m : Nat) : Prop :=
  (own = [] ∧ other = [] ∧ m = if lot = further then 1 else 0) ∨ (¬ (own = [] ∧ other = []) ∧ ∃ gs, (own ≠ [] → other ≠ [] → IsGS (rowsOf g own other) gs) ∧
    IsMax ((own.map fun p => g p further) ++ (other.map fun p => g lot p) ++ if own ≠ [] ∧ other ≠ [] then [gs] else []) m)
def entG (g : Lot → Lot → Nat) (q : Lot × Lot) : PyData × PyData := (pairK q.1 q.2, eI (g q.1 q.2))
theorem it_pair (a b : Lot) : itD (pairK a b) = true := by simp [pairK, itD, itDs, it_lot]
theorem keyOk_pair (a b : Lot) : keyOk (pairK a b) = true := by
  have h1 := it_pair a b
  have h2 : (keyN (pairK a b)).depth ≤ 8 := by
    simp [pairK, keyN, keyNs, NestedKey.depth, NestedKey.depthAll, eLot, depth_keys]
  unfold keyOk
  rw [h1, decide_eq_true h2]
  rfl
theorem key_pair_inj {a b c d : Lot} (h : keyN (pairK a b) = keyN (pairK c d)) : a = c ∧ b = d := by
  have := keyN_inj _ _ (it_pair a b) (it_pair c d) h
  unfold pairK at this
  injection this with h1
  injection h1 with h2 h3
  injection h3 with h4 _
  exact ⟨eLot_inj h2, eLot_inj h4⟩
theorem atD_ent (g : Lot → Lot → Nat) (a b : Lot) : ∀ l : List (Lot × Lot), atD (l.map (entG g)) (pairK a b) = if (a, b) ∈ l then some (eI (g a b)) else none
  | [] => rfl
  | q :: l => by
    have ih := atD_ent g a b l
    unfold atD at ih ⊢
    rw [List.map_cons, List.find?_cons]
    by_cases e : q = (a, b)
    · subst e
      simp [entG]
    · have : decide (keyN (entG g q).1 = keyN (pairK a b)) = false := decide_eq_false fun z => e (by
        obtain ⟨h1, h2⟩ := key_pair_inj z
        exact Prod.ext h1 h2)
      rw [this]
      simp only
      rw [ih]
      by_cases hm : (a, b) ∈ l
      · rw [if_pos hm, if_pos (List.mem_cons_of_mem _ hm)]
      · rw [if_neg hm, if_neg fun h => (List.mem_cons.mp h).elim (fun z => e z.symm) hm]
theorem putD_ent (g : Lot → Lot → Nat) (a b : Lot) (l : List (Lot × Lot)) (h : (a, b) ∉ l) : putD (l.map (entG g)) (pairK a b) (eI (g a b)) = (l ++ [(a, b)]).map (entG g) := by
  unfold putD
  rw [atD_ent, if_neg h, List.map_append]
  rfl
theorem startS_k {n : Nat} : True := trivial
section
variable {P : Program} {w : World} {K : PySem.W.Frag} {mg : Str → Option Value} {base : Heap} {B : Hp} {ρ ρ' : List Sl} {te tf ti : TE} {S : Addr → Prop} {Z : Hp → Prop} {tz : TS} {D : Ends}
theorem ed_varT {i : Nat} {d : PyData} (h : ρ[i]? = some (.t d)) : EvD K B (tVar i) ρ d := fun σ H eb ok Q q => by
  obtain ⟨v, e, hv⟩ := ok.t h
  exact ⟨v, e, q v H Ex.rf hv⟩
/-! need_alike_size -/
def R_need_alike_size (ds : List PyData) (d : PyData) : Prop := ∃ (n : Nat) (ns ms : List Lot), ds = [eTree n ns, eTree n ms] ∧ d = .none
abbrev sp_need_alike_size (K : PySem.W.Frag) : Sp := spD K R_need_alike_size
theorem len_need_alike_size : ∀ ds d, R_need_alike_size ds d → ds.length = 2 := by rintro ds d ⟨n, ns, ms, rfl, _⟩; rfl
-- slots: tree:0 other:1  level 1
abbrev N_need_alike_size : List Str := ["tree", "other"]
theorem sc_need_alike_size : FnScope N_need_alike_size ["tree", "other"] (defScope s_need_alike_size) := ⟨rfl, rfl, rfl, by decide +kernel, rfl, by decide +kernel, by decide +kernel⟩
theorem bd_need_alike_size : BindsBy "need_alike_size" s_need_alike_size ["tree", "other"] := fun _ _ _ _ _ _ us hl => match us, hl with | [_, _], _ => rfl
theorem ok_need_alike_size (F : Here K mg "need_alike_size" s_need_alike_size) (bs : Bs mg) : Ok P w K mg base 1 "need_alike_size" ["tree", "other"] (sp_need_alike_size K) := by
  have nd := sc_need_alike_size.nd
  refine mkG F sc_need_alike_size bd_need_alike_size (lenD len_need_alike_size) fun f cdv A outer s H E hg hr => ⟨_, (pss_cons (ps_if (pt_cmpR (op_nek K rfl hr.units) (pe_ix (ix_tk K rfl) (pv 0) pe_int (fun _ _ => rfl)) (pe_ix (ix_tk K rfl) (pv 1) pe_int (fun _ _ => rfl)) (nomark _)) pss_never pss_nil)
    pss_nil), runN (fun ds d h => by obtain ⟨_, _, _, _, h⟩ := h; exact h) fun B ds hR D hD => ?_⟩
  obtain ⟨n, ns, ms, rfl, _⟩ := hR
  exact q_if (b := false) (et_is (et_test (ed_neN (ed_size (ed_var rfl)) (ed_size (ed_var rfl)))) (by simp)) (fun h => nomatch h) (fun _ => q_next (q_end fun σ H a => hD σ H a.eb))
/-! nests_and_tips -/
def R_nests_and_tips (ds : List PyData) (d : PyData) : Prop := ∃ (n : Nat) (ns : List Lot), ds = [eTree n ns] ∧ n ≤ 100 ∧ ns.length ≤ 800 ∧ d = eLots (ntL n ns)
abbrev sp_nests_and_tips (K : PySem.W.Frag) : Sp := spD K R_nests_and_tips
theorem len_nests_and_tips : ∀ ds d, R_nests_and_tips ds d → ds.length = 1 := by rintro ds d ⟨n, ns, rfl, _⟩; rfl
-- slots: tree:0 leaf:1  level 5
abbrev N_nests_and_tips : List Str := ["tree", "leaf"]
theorem sc_nests_and_tips : FnScope N_nests_and_tips ["tree"] (defScope s_nests_and_tips) := ⟨rfl, rfl, rfl, by decide +kernel, rfl, by decide +kernel, by decide +kernel⟩
theorem bd_nests_and_tips : BindsBy "nests_and_tips" s_nests_and_tips ["tree"] := fun _ _ _ _ _ _ us hl => match us, hl with | [_], _ => rfl
theorem ok_nests_and_tips (F : Here K mg "nests_and_tips" s_nests_and_tips) (bs : Bs mg) (h_in_order : Ok P w K mg base 4 "in_order" ["lots"] (sp_in_order K)) : Ok P w K mg base 5 "nests_and_tips" ["tree"] (sp_nests_and_tips K) := by
  have nd := sc_nests_and_tips.nd
  refine mkG F sc_nests_and_tips bd_nests_and_tips (lenD len_nests_and_tips) fun f cdv A outer s H E hg hr => ⟨_, (pss_cons (ps_ret (pe_callN h_in_order hg hr rfl (pa_cons (pe_op (op_catk K rfl) (pe_ix (ix_tk K rfl) (pv 0) pe_int (fun _ _ => rfl)) (pe_callTy (cr_tupk K rfl) rfl bs.tuple boot_tuple (pa_cons (pe_lc (own := [("leaf", 1)]) rfl nd (pi_range1 rfl bs.range (pa_cons (pe_ix (ix_tk K rfl) (pv 0) pe_int (fun _ _ => rfl)) pa_nil)) (blk1 rfl rfl rfl rfl rfl) (fun _ _ _ _ _ => pg_name (i := 1) nd rfl (by first | exact Or.inl rfl | exact Or.inr rfl)) (fun _ _ _ _ _ => pts_nil) (fun _ _ _ _ _ => (pe_tup (pa_cons (pv 1) pa_nil)))) pa_nil))) pa_nil)))
    pss_nil), runD fun B ds d hR D hD => ?_⟩
  obtain ⟨n, ns, rfl, hn, hl, rfl⟩ := hR
  refine q_ret (d := eLots (ntL n ns)) (ed_call (ea_cons (d := eLots (ns ++ tips n)) (ed_is (ed_op (ed_nests (ed_var rfl)) (ed_cb (ea_cons (ed_L (el_lcR' (n := n) (f := fun x => eLot [x]) (ea_cons (ed_size (ed_var rfl)) ea_nil) (by omega) (fun a _ => ed_tup (ea_cons (ed_var rfl) ea_nil) (by simp)) fun _ _ => nl_Lot _)) ea_nil) rc_tupL) (rd_catT (by simp; omega))) ?_) ea_nil) ⟨ns ++ tips n, rfl, by simp [tips]; omega, rfl⟩) fun v H' e _ h => hD v H' e h
  unfold eLots tips
  rw [List.map_append, List.map_map]; rfl
/-! parts_or_none -/
def R_parts_or_none (ds : List PyData) (d : PyData) : Prop := ∃ (n : Nat) (ns : List Lot) (lot : Lot), ds = [eTree n ns, eLot lot] ∧ Lt10s ns ∧ ns.length ≤ 900 ∧ (1 < lot.length → lot ∈ ns ∧ PartsOk (nestB ns) (bitsOf lot)) ∧ d = eLots (poL ns lot)
abbrev sp_parts_or_none (K : PySem.W.Frag) : Sp := spD K R_parts_or_none
theorem len_parts_or_none : ∀ ds d, R_parts_or_none ds d → ds.length = 2 := by rintro ds d ⟨n, ns, l, rfl, _⟩; rfl
-- slots: tree:0 lot:1  level 6
abbrev N_parts_or_none : List Str := ["tree", "lot"]
theorem sc_parts_or_none : FnScope N_parts_or_none ["tree", "lot"] (defScope s_parts_or_none) := ⟨rfl, rfl, rfl, by decide +kernel, rfl, by decide +kernel, by decide +kernel⟩
theorem bd_parts_or_none : BindsBy "parts_or_none" s_parts_or_none ["tree", "lot"] := fun _ _ _ _ _ _ us hl => match us, hl with | [_, _], _ => rfl
theorem ok_parts_or_none (F : Here K mg "parts_or_none" s_parts_or_none) (bs : Bs mg) (h_parts : Ok P w K mg base 5 "parts" ["tree", "nest"] (sp_parts K)) : Ok P w K mg base 6 "parts_or_none" ["tree", "lot"] (sp_parts_or_none K) := by
  have nd := sc_parts_or_none.nd
  refine mkG F sc_parts_or_none bd_parts_or_none (lenD len_parts_or_none) fun f cdv A outer s H E hg hr => ⟨_, (pss_cons (ps_ret (pe_ifExp (pt_cmpR op_gt (pe_callB (cr_lenk K rfl) rfl bs.len boot_len (pa_cons (pv 1) pa_nil)) pe_int (nomark _)) (pe_callN h_parts hg hr rfl (pa_cons (pv 0) (pa_cons (pv 1) pa_nil))) (pe_tup pa_nil)))
    pss_nil), runD fun B ds d hR D hD => ?_⟩
  obtain ⟨n, ns, lot, rfl, h10, hl, hp, rfl⟩ := hR
  refine q_ret (d := eLots (poL ns lot)) (ed_if (b := decide (1 < lot.length)) (et_test (ed_gtN (ed_lenLot (ed_var rfl)) ed_int)) (fun h => ?_) (fun h => ?_)) fun v H' e _ h => hD v H' e h
  · have h := of_decide_eq_true h
    rw [show poL ns lot = partsL ns lot from if_pos h]
    exact ed_call (ea_cons (ed_var rfl) (ea_cons (ed_var rfl) ea_nil)) ⟨n, ns, lot, rfl, h10, hl, (hp h).1, (hp h).2, rfl⟩
  · rw [show poL ns lot = [] from if_neg (of_decide_eq_false h)]
    exact ed_tup ea_nil (by simp)
/-! pair_number -/
def sp_pair_number (K : PySem.W.Frag) (P : Program) (w : World) : Sp := fun vs H Q _ => ∃ (p : Addr) (rest : List V) (es : List (PyData × PyData)) (xs : List (NestedKey × Addr × Value)) (ep : Nat) (g : Lot → Lot → Nat) (lot further : Lot) (own other : List Lot) (m : Nat),
  vs = .ref p :: rest ∧ H p = some (dHO P w p xs ep) ∧ Paired (KE K H) es xs ∧ DpAll K H rest [eLot lot, eLot further, eLots own, eLots other] ∧
  (∀ q ∈ own, atD es (pairK q further) = some (eI (g q further))) ∧ (∀ q ∈ other, atD es (pairK lot q) = some (eI (g lot q))) ∧ (∀ q ∈ own, ∀ r ∈ other, atD es (pairK q r) = some (eI (g q r))) ∧
  Lt10 lot ∧ Lt10 further ∧ Lt10s own ∧ Lt10s other ∧ own.length ≤ 10 ∧ other.length ≤ 10 ∧ IsPN g lot further own other m ∧ ∀ v H', Ex H H' → Dp K H' v (eI m) → Q v H'
theorem len_pair_number (vs : List V) (H : Hp) (Q : VK) (E : XK) (h : sp_pair_number K P w vs H Q E) : vs.length = 5 := by
  obtain ⟨p, rest, es, xs, ep, g, lot, further, own, other, m, rfl, _, _, h, _⟩ := h
  have := dps_len h
  simp at this ⊢
  exact this
theorem eqvs_lots (a : List Lot) : PyData.eqv (eLots a) (.tuple []) = decide (a = []) := by
  cases a <;> simp [eLots, PyData.eqv, PyData.eqvAll]
theorem gsum_unique {rows : List (List Nat)} {a b : Nat} (h1 : IsGS rows a) (h2 : IsGS rows b) : a = b := by
  obtain ⟨u, hu⟩ := h1.1
  obtain ⟨v, hv⟩ := h2.1
  exact Nat.le_antisymm (h2.2 u a hu) (h1.2 v b hv)
theorem max_nat {l : List Nat} {m : Nat} (h : IsMax l m) : maxI (l.map fun x : Nat => (x : Int)) = (m : Int) := by
  have hne : l ≠ [] := by rintro rfl; cases h.1
  obtain ⟨m', h1, h2, h3⟩ := maxI_nat hne
  rw [h2, Nat.le_antisymm (h.2 m' h1) (h3 m h.1)]
-- slots: numbers:0c lot:1c further:2c own_parts:3 other_parts:4c some:5 rows:6 part:7 other:8  level 2
abbrev N_pair_number : List Str := ["numbers", "lot", "further", "own_parts", "other_parts", "some", "rows", "part", "other"]
theorem sc_pair_number : FnScope N_pair_number ["numbers", "lot", "further", "own_parts", "other_parts"] (defScope s_pair_number) := ⟨rfl, rfl, rfl, by decide +kernel, rfl, by decide +kernel, by decide +kernel⟩
theorem bd_pair_number : BindsBy "pair_number" s_pair_number ["numbers", "lot", "further", "own_parts", "other_parts"] := fun _ _ _ _ _ _ us hl => match us, hl with | [_, _, _, _, _], _ => rfl
theorem ok_pair_number (F : Here K mg "pair_number" s_pair_number) (bs : Bs mg) (h_greatest_sum : Ok P w K mg base 1 "greatest_sum" ["rows"] (sp_greatest_sum K)) : Ok P w K mg base 2 "pair_number" ["numbers", "lot", "further", "own_parts", "other_parts"] (sp_pair_number K P w) := by
  have nd := sc_pair_number.nd
  refine mkG F sc_pair_number bd_pair_number ( len_pair_number) fun f cdv A outer s H E hg hr => ⟨_, (pss_cons (ps_if (PW.pt (pw_and (pt_cmpR (op_eqk K rfl hr.units) (pv 3) (pe_tup pa_nil) (nomark _)) (pw_and1 (pt_cmpR (op_eqk K rfl hr.units) (pv 4) (pe_tup pa_nil) (nomark _))))) (pss_cons (ps_ret (pe_ifExp (pt_cmpR (op_eqk K rfl hr.units) (pv 1) (pv 2) (nomark _)) pe_int pe_int))
    pss_nil) pss_nil)
    (pss_cons (ps_set (i := 5) nd rfl (Or.inl rfl) (pe_op op_cat (pe_lc (own := [("part", 7)]) rfl nd (pi_tk K rfl (pv 3)) (blk1 rfl rfl rfl rfl rfl) (fun _ _ _ _ _ => pg_name (i := 7) nd rfl (by first | exact Or.inl rfl | exact Or.inr rfl)) (fun _ _ _ _ _ => pts_nil) (fun _ _ _ _ _ => (pe_ngetk K P w rfl rfl rfl hr.units (pv 0) (pe_tup (pa_cons (pv 7) (pa_cons (pv 2) pa_nil))) (fun _ _ => rfl)))) (pe_lc (own := [("part", 7)]) rfl nd (pi_tk K rfl (pv 4)) (blk1 rfl rfl rfl rfl rfl) (fun _ _ _ _ _ => pg_name (i := 7) nd rfl (by first | exact Or.inl rfl | exact Or.inr rfl)) (fun _ _ _ _ _ => pts_nil) (fun _ _ _ _ _ => (pe_ngetk K P w rfl rfl rfl hr.units (pv 0) (pe_tup (pa_cons (pv 1) (pa_cons (pv 7) pa_nil))) (fun _ _ => rfl))))))
    (pss_cons (ps_if (PW.pt (pw_and (pt_cmpR (op_nek K rfl hr.units) (pv 3) (pe_tup pa_nil) (nomark _)) (pw_and1 (pt_cmpR (op_nek K rfl hr.units) (pv 4) (pe_tup pa_nil) (nomark _))))) (pss_cons (ps_setLc (own := [("part", 7)]) (i := 6) rfl nd rfl rfl rfl (pi_tk K rfl (pv 3)) (blk1 rfl rfl rfl rfl rfl) (fun _ _ _ _ _ => pg_name (i := 7) nd rfl (by first | exact Or.inl rfl | exact Or.inr rfl)) (fun _ _ _ _ _ => pts_nil) (fun _ _ _ _ _ => (pe_lc (own := [("other", 8)]) rfl nd (pi_tk K rfl (pv 4)) (blk1 rfl rfl rfl rfl rfl) (fun _ _ _ _ _ => pg_name (i := 8) nd rfl (by first | exact Or.inl rfl | exact Or.inr rfl)) (fun _ _ _ _ _ => pts_nil) (fun _ _ _ _ _ => (pe_ngetk K P w rfl rfl rfl hr.units (pv 0) (pe_tup (pa_cons (pv 7) (pa_cons (pv 8) pa_nil))) (fun _ _ => rfl))))))
    (pss_cons (ps_expr (pe_bm PySem.F.plainAttrs_list PySem.F.slot_list_append PySem.F.type_list_append mt_append (pv 5) (pa_cons (pe_callN h_greatest_sum hg hr rfl (pa_cons (pv 6) pa_nil)) pa_nil)))
    pss_nil)) pss_nil)
    (pss_cons (ps_ret (pe_callB (cr_maxk K rfl rfl) rfl bs.max (by decide +kernel) (pa_cons (pv 5) pa_nil)))
    pss_nil)))), ?_⟩
  rintro vs H Q E ⟨p, rest, es, xs, ep, g, lot, further, own, other, m, rfl, hp, hpa, hd, ho, hot, hoo, ll, lf, lo, lot', hol, hotl, hpn, q⟩
  obtain ⟨v1, v2, v3, v4, rfl, d1, d2, d3, d4⟩ : ∃ v1 v2 v3 v4, rest = [v1, v2, v3, v4] ∧ Dp K H v1 (eLot lot) ∧ Dp K H v2 (eLot further) ∧ Dp K H v3 (eLots own) ∧ Dp K H v4 (eLots other) := by
    cases hd with
    | cons h1 hd => cases hd with
      | cons h2 hd =>
        obtain ⟨v3, v4, rfl, h3, h4⟩ := two_dp hd
        exact ⟨_, _, _, _, rfl, h1, h2, h3, h4⟩
  have sh0 : ∀ l : List Lot, Lt10s l → SeqAt.shaped (eLots l) = true := fun l h => shaped_of_small (by show smallIs (l.map eLot) = true; exact small_lots h) (by have := depth_lots l; simp [eLots, PyData.depth]; omega)
  have shE : SeqAt.shaped (.tuple []) = true := by decide
  have eqE : ∀ {te : TE} {ρ : List Sl} {l : List Lot}, Lt10s l → EvD K H te ρ (eLots l) → EvD K H (tOp (rEqD K) te (tTup tNil)) ρ (.bool (decide (l = []))) := fun h1 h2 => ed_is (ed_op h2 (ed_tup ea_nil (by simp)) (rd_eq (sh0 _ h1) shE)) (by rw [eqvs_lots])
  have neE : ∀ {te : TE} {ρ : List Sl} {l : List Lot}, Lt10s l → EvD K H te ρ (eLots l) → EvD K H (tOp (rNeD K) te (tTup tNil)) ρ (.bool (decide (l ≠ []))) := fun h1 h2 => ed_is (ed_op h2 (ed_tup ea_nil (by simp)) (rd_ne (sh0 _ h1) shE)) (by rw [eqvs_lots]; simp)
  refine (show ∀ t : TS, (∀ D : Ends, (∀ v H', Ex H H' → Dp K H' v (eI m) → D.rt v H') → TrR K H S0 Z0 t [.k p P w es, .d (eLot lot), .d (eLot further), .d (eLots own), .d (eLots other), .un, .un, .un, .un] D) → t { nx := fun _ H' => Q .non H', rt := Q } (L2.start N_pair_number [V.ref p, v1, v2, v3, v4]) H from fun t main => main _ q _ _ ⟨Ex.rf, trivial, ⟨rfl, xs, ep, hp, hpa⟩, ⟨v1, rfl, .inl d1⟩, ⟨v2, rfl, .inl d2⟩, ⟨v3, rfl, .inl d3⟩, ⟨v4, rfl, .inl d4⟩, trivial, trivial, trivial, trivial, trivial⟩) _ fun D hD => ?_
  · refine q_if (b := decide (own = []) && decide (other = [])) (et_and (et_test (eqE lo (ed_var rfl))) fun _ => et_test (eqE lot' (ed_var rfl))) (fun h => ?_) (fun h => q_next ?_)
    · rw [Bool.and_eq_true] at h
      have h1 := of_decide_eq_true h.1
      have h2 := of_decide_eq_true h.2
      have hm : m = if lot = further then 1 else 0 := by
        rcases hpn with ⟨_, _, e⟩ | ⟨hn, _⟩
        · exact e
        · exact absurd ⟨h1, h2⟩ hn
      refine q_ret (d := eI m) (ed_if (b := decide (lot = further)) (et_test (ed_eqLot ll lf (ed_var rfl) (ed_var rfl))) (fun h => ?_) (fun h => ?_)) fun v H' e _ h => hD v H' e h
      · rw [hm, if_pos (of_decide_eq_true h)]; exact ed_int
      · rw [hm, if_neg (of_decide_eq_false h)]; exact ed_int
    · have hnn : ¬ (own = [] ∧ other = []) := fun z => by simp [z.1, z.2] at h
      obtain ⟨gs, hgs, hmax⟩ : ∃ gs, (own ≠ [] → other ≠ [] → IsGS (rowsOf g own other) gs) ∧ IsMax ((own.map fun p => g p further) ++ (other.map fun p => g lot p) ++ if own ≠ [] ∧ other ≠ [] then [gs] else []) m := by
        rcases hpn with ⟨e1, e2, _⟩ | ⟨_, h⟩
        · exact absurd ⟨e1, e2⟩ hnn
        · exact h
      refine q_asgL (ds := ((own.map fun p => g p further) ++ (other.map fun p => g lot p)).map eI) (el_is (el_catLL (ds := own.map fun q => eI (g q further)) (es := other.map fun q => eI (g lot q)) (el_lcT' (xs := own) (enc := eLot) (f := fun q => eI (g q further)) (ed_var rfl) (by omega) (fun a _ => nl_Lot a) (fun a ha => ed_nget (p := p) (k := pairK a further) rfl (ed_tup (ea_cons (ed_var rfl) (ea_cons (ed_var rfl) ea_nil)) (by simp)) (keyOk_pair _ _) (ho a ha)) fun _ _ => rfl) (el_lcT' (xs := other) (enc := eLot) (f := fun q => eI (g lot q)) (ed_var rfl) (by omega) (fun a _ => nl_Lot a) (fun a ha => ed_nget (p := p) (k := pairK lot a) rfl (ed_tup (ea_cons (ed_var rfl) (ea_cons (ed_var rfl) ea_nil)) (by simp)) (keyOk_pair _ _) (hot a ha)) fun _ _ => rfl) (by simp; omega)) (by rw [List.map_append, List.map_map, List.map_map]; rfl)) (nls_I _) fun s ns => ?_
      have nps : p ≠ s := ns.a p (adr_k (i := 0) rfl)
      have fin : ∀ (L : List Nat) (ρ : List Sl) (D2 : Ends), (∀ v H', D2.rt v H' = D.rt v H') → ρ[5]? = some (.l s (L.map eI)) → IsMax L m → TrR K H S0 Z0 (tSeq (tRet (tCB (rMax K) (tCons (tVar 5) tNil))) tNext) ρ D2 := fun L ρ D2 hrt h5 hL => by
        refine q_ret (d := eI m) (ed_is (ed_cb (ea_cons (ed_is (ed_varL h5) (by rw [map_eI])) ea_nil) (rc_max (ns := L.map fun x : Nat => (x : Int)) (by intro z; have := List.map_eq_nil_iff.mp z; rw [this] at hL; cases hL.1))) (by rw [max_nat hL]; rfl)) fun v H' e _ h => by rw [hrt]; exact hD v H' e h
      refine q_if (b := decide (own ≠ []) && decide (other ≠ [])) (et_and (et_test (neE lo (ed_var rfl))) fun _ => et_test (neE lot' (ed_var rfl))) (fun h => ?_) (fun h => q_next ?_)
      · rw [Bool.and_eq_true] at h
        have h1 : own ≠ [] := by simpa using h.1
        have h2 : other ≠ [] := by simpa using h.2
        rw [if_pos ⟨h1, h2⟩] at hmax
        refine q_asgT (d := .list ((rowsOf g own other).map eRow)) (ed_is (ed_llT (xs := own) (enc := eLot) (f := fun q => other.map fun r => eI (g q r)) (ed_var rfl) (by omega) (fun a _ => nl_Lot a) (fun a ha => el_lcT' (xs := other) (enc := eLot) (f := fun r => eI (g a r)) (ed_var rfl) (by omega) (fun a _ => nl_Lot a) (fun r hr => ed_nget (p := p) (k := pairK a r) rfl (ed_tup (ea_cons (ed_var rfl) (ea_cons (ed_var rfl) ea_nil)) (by simp)) (keyOk_pair _ _) (hoo a ha r hr)) fun _ _ => rfl) fun a _ => by
          have := nls_I (other.map fun r => g a r)
          rw [List.map_map] at this
          exact this) (by
            unfold rowsOf
            rw [List.map_map]
            congr 1
            refine List.map_congr_left fun a _ => ?_
            show PyData.list (other.map fun r => eI (g a r)) = .list ((other.map fun r => g a r).map eI)
            rw [List.map_map]; rfl)) ?_
        refine q_app (p := s) (d := eI gs) rfl (ed_call (ea_cons (ed_varT rfl) ea_nil) ⟨rowsOf g own other, gs, rfl, fun row hr => ?_, hgs h1 h2, rfl⟩) rfl ns.b ns.s (by simp; omega) rfl (q_next (fin _ _ _ (fun _ _ => rfl) (by simp [putL, nps]) hmax))
        obtain ⟨a, _, rfl⟩ := List.mem_map.mp hr
        rw [List.length_map]; exact hotl
      · have hc : ¬ (own ≠ [] ∧ other ≠ []) := fun z => by simp [z.1, z.2] at h
        rw [if_neg hc, List.append_nil] at hmax
        exact fin _ _ _ (fun _ _ => rfl) rfl hmax
end
end Fk
/-! the walks, 11: the table, the distance -/
namespace Fk
open PySem PySem.Spec PyProof.Rows L2
/-- what is asked of a tree's nests -/
structure SideOk (n : Nat) (ns : List Lot) : Prop where
  n10 : n ≤ 10
  l10 : Lt10s ns
  len : ns.length ≤ 60
  parts : ∀ lot ∈ ntL n ns, 1 < lot.length → lot ∈ ns ∧ PartsOk (nestB ns) (bitsOf lot)
  sub : ∀ lot ∈ ntL n ns, ∀ part ∈ poL ns lot, part ∈ ntL n ns ∧ part.length < lot.length
  few : ∀ lot ∈ ntL n ns, (poL ns lot).length ≤ 10
structure TabOk (n : Nat) (ns ms : List Lot) (g : Lot → Lot → Nat) : Prop where
  a : SideOk n ns
  b : SideOk n ms
  pn : ∀ x ∈ ntL n ns, ∀ y ∈ ntL n ms, IsPN g x y (poL ns x) (poL ms y) (g x y)
def prs (A C : List Lot) : List (Lot × Lot) := A.flatMap fun x => C.map fun y => (x, y)
theorem prs_mem {A C : List Lot} {x y : Lot} : (x, y) ∈ prs A C ↔ x ∈ A ∧ y ∈ C := by
  unfold prs
  rw [List.mem_flatMap]
  constructor
  · rintro ⟨a, ha, h⟩
    obtain ⟨b, hb, e⟩ := List.mem_map.mp h
    cases e
    exact ⟨ha, hb⟩
  · rintro ⟨h1, h2⟩
    exact ⟨x, h1, List.mem_map.mpr ⟨y, h2, rfl⟩⟩
theorem prs_len (A C : List Lot) : (prs A C).length = A.length * C.length := by
  unfold prs
  induction A with
  | nil => simp
  | cons x A ih => rw [List.flatMap_cons, List.length_append, ih, List.length_map, List.length_cons]; rw [Nat.add_mul]; omega
theorem prs_take {A C : List Lot} {i : Nat} {x : Lot} (h : A[i]? = some x) : prs (A.take (i + 1)) C = prs (A.take i) C ++ C.map fun y => (x, y) := by
  unfold prs
  rw [List.take_add_one, h, List.flatMap_append]
  simp
theorem ntL_len (n : Nat) (ns : List Lot) : (ntL n ns).length ≤ ns.length + n := by
  unfold ntL ordL
  have e : (isort rankLe (dedup (ns ++ tips n))).length = (dedup (ns ++ tips n)).length := (isort_perm _ _).length_eq
  rw [e]
  have gen : ∀ (l acc : List Lot), (l.foldl dstep acc).length ≤ acc.length + l.length := by
    intro l
    induction l with
    | nil => intro acc; simp
    | cons x l ih =>
      intro acc
      rw [List.foldl_cons]
      have h1 := ih (dstep acc x)
      have h2 : (dstep acc x).length ≤ acc.length + 1 := by
        unfold dstep
        split <;> simp
      rw [List.length_cons]; omega
  have := gen (ns ++ tips n) []
  simpa [dedup, tips] using this
theorem rank_len {a b : Lot} (h : rankLe a b = true) : a.length ≤ b.length := by
  unfold rankLe rankLt at h
  by_cases e : b.length = a.length
  · omega
  · rw [if_neg e] at h
    simp at h
    exact h
/-- what is shorter stands ahead -/
theorem ahead {l : List Lot} (hs : l.Pairwise (fun a b => rankLe a b = true)) {i : Nat} {x y : Lot} (hx : l[i]? = some x) (hy : y ∈ l) (h : y.length < x.length) : y ∈ l.take i := by
  obtain ⟨j, hj⟩ := List.getElem?_of_mem hy
  have hlt : j < i := by
    refine Nat.lt_of_not_le fun hij => ?_
    rcases Nat.lt_or_eq_of_le hij with hij | hij
    · obtain ⟨hi', ei⟩ := List.getElem?_eq_some_iff.mp hx
      obtain ⟨hj', ej⟩ := List.getElem?_eq_some_iff.mp hj
      have := List.pairwise_iff_getElem.mp hs i j hi' hj' hij
      rw [ei, ej] at this
      have := rank_len this
      omega
    · subst hij
      rw [hx] at hj; cases hj
      exact absurd h (Nat.lt_irrefl _)
  exact List.mem_of_getElem? (i := j) (by rw [List.getElem?_take, if_pos hlt]; exact hj)
theorem notin_take {l : List Lot} (nd : l.Nodup) {i : Nat} {x : Lot} (hx : l[i]? = some x) : x ∉ l.take i := by
  intro h
  obtain ⟨j, hj⟩ := List.getElem?_of_mem h
  rw [List.getElem?_take] at hj
  split at hj
  · rename_i hji
    have := (List.getElem?_inj (List.getElem?_eq_some_iff.mp hj).1 nd).mp (hj.trans hx.symm)
    omega
  · cases hj
def eRec (g : Lot → Lot → Nat) (q : Lot × Lot) : PyData := .tuple [eLot q.1, eLot q.2, eI (g q.1 q.2)]
theorem nl_pair (a b : Lot) : noL (pairK a b) = true := itD_noL _ (it_pair a b)
section
variable {P : Program} {w : World} {K : PySem.W.Frag} {mg : Str → Option Value} {base : Heap} {B : Hp} {ρ ρ' : List Sl} {te tf ti : TE} {S : Addr → Prop} {Z : Hp → Prop} {tz : TS} {D : Ends}
/-! table_numbers -/
def sp_table_numbers (K : PySem.W.Frag) (P : Program) (w : World) : Sp := fun vs H Q _ => ∃ (n : Nat) (ns ms : List Lot) (g : Lot → Lot → Nat), DpAll K H vs [eTree n ns, eTree n ms] ∧ TabOk n ns ms g ∧
  ∀ p xs ep H', Ex H H' → H p = none → H' p = some (dHO P w p xs ep) → Paired (KE K H') ((prs (ntL n ns) (ntL n ms)).map (entG g)) xs → Q (.ref p) H'
theorem len_table_numbers (vs : List V) (H : Hp) (Q : VK) (E : XK) (h : sp_table_numbers K P w vs H Q E) : vs.length = 2 := by
  obtain ⟨n, ns, ms, g, h, _⟩ := h
  rw [dps_len h]; rfl
theorem sp_pair_use {i : Nat} {p : Addr} {es : List (PyData × PyData)} {g : Lot → Lot → Nat} {lot further : Lot} {own other : List Lot} {m : Nat} {E : XK} {ta : TA}
    (h : ρ[i]? = some (.k p P w es)) (ha : EvA K B ta ρ [eLot lot, eLot further, eLots own, eLots other]) (h1 : ∀ q ∈ own, atD es (pairK q further) = some (eI (g q further))) (h2 : ∀ q ∈ other, atD es (pairK lot q) = some (eI (g lot q))) (h3 : ∀ q ∈ own, ∀ r ∈ other, atD es (pairK q r) = some (eI (g q r)))
    (h4 : Lt10 lot) (h5 : Lt10 further) (h6 : Lt10s own) (h7 : Lt10s other) (h8 : own.length ≤ 10) (h9 : other.length ≤ 10) (h10 : IsPN g lot further own other m) : EvD K B (tCall (sp_pair_number K P w) [] E (tCons (tVar i) ta)) ρ (eI m) := fun σ H eb ok Q q => by
  obtain ⟨e1, xs, ep, k1, k2⟩ := ok.k h
  refine ⟨_, e1, ha σ H eb ok _ fun vs H1 ex hv => ?_⟩
  show sp_pair_number K P w ((V.ref p :: vs) ++ []) H1 Q E
  rw [List.append_nil]
  exact ⟨p, vs, es, xs, ep, g, lot, further, own, other, m, rfl, ex _ _ k1, ke_ex ex k2, hv, h1, h2, h3, h4, h5, h6, h7, h8, h9, h10, fun v H2 e2 h2 => q v H2 (ex.tr e2) h2⟩
theorem q_retK {i : Nat} {p : Addr} {es : List (PyData × PyData)} [zk : ZK S Z] (h : ρ[i]? = some (.k p P w es)) (k : ∀ xs ep H', Ex B H' → Z H' → H' p = some (dHO P w p xs ep) → Paired (KE K H') es xs → D.rt (.ref p) H') : TrR K B S Z (tSeq (tRet (tVar i)) tz) ρ D := fun σ H a => by
  obtain ⟨e1, xs, ep, k1, k2⟩ := a.ok.k h
  exact ⟨_, e1, k xs ep H a.eb a.z k1 k2⟩
theorem nt10 {n : Nat} {ns : List Lot} (h : SideOk n ns) : Lt10s (ntL n ns) := fun l hl x hx => by
  rcases List.mem_append.mp (ordL_mem.mp hl) with h1 | h1
  · exact h.l10 l h1 x hx
  · obtain ⟨y, hy, rfl⟩ := List.mem_map.mp h1
    rw [List.mem_singleton.mp hx]
    have := List.mem_range.mp hy
    have := h.n10
    omega
theorem po10 {n : Nat} {ns : List Lot} (h : SideOk n ns) {lot : Lot} (hl : lot ∈ ntL n ns) : Lt10s (poL ns lot) := fun part hp => nt10 h part (h.sub lot hl part hp).1
-- slots: tree:0 other:1c numbers:2 other_rows:3 lot:4 own_parts:5 further:6 other_parts:7  level 7
abbrev N_table_numbers : List Str := ["tree", "other", "numbers", "other_rows", "lot", "own_parts", "further", "other_parts"]
theorem sc_table_numbers : FnScope N_table_numbers ["tree", "other"] (defScope s_table_numbers) := ⟨rfl, rfl, rfl, by decide +kernel, rfl, by decide +kernel, by decide +kernel⟩
theorem bd_table_numbers : BindsBy "table_numbers" s_table_numbers ["tree", "other"] := fun _ _ _ _ _ _ us hl => match us, hl with | [_, _], _ => rfl
theorem ok_table_numbers (F : Here K mg "table_numbers" s_table_numbers) (bs : Bs mg) (h_nests_and_tips : Ok P w K mg base 5 "nests_and_tips" ["tree"] (sp_nests_and_tips K)) (h_pair_number : Ok P w K mg base 2 "pair_number" ["numbers", "lot", "further", "own_parts", "other_parts"] (sp_pair_number K P w)) (h_parts_or_none : Ok P w K mg base 6 "parts_or_none" ["tree", "lot"] (sp_parts_or_none K)) : Ok P w K mg base 7 "table_numbers" ["tree", "other"] (sp_table_numbers K P w) := by
  have nd := sc_table_numbers.nd
  refine mkG F sc_table_numbers bd_table_numbers ( len_table_numbers) fun f cdv A outer s H E hg hr => ⟨_, (pss_cons (ps_set (i := 2) nd rfl (Or.inl rfl) pe_dnewN)
    (pss_cons (ps_setLc (own := [("lot", 4)]) (i := 3) rfl nd rfl rfl rfl (pi_tk K rfl (pe_callN h_nests_and_tips hg (hr.mono (by decide)) rfl (pa_cons (pv 1) pa_nil))) (blk1 rfl rfl rfl rfl rfl) (fun _ _ _ _ _ => pg_name (i := 4) nd rfl (by first | exact Or.inl rfl | exact Or.inr rfl)) (fun _ _ _ _ _ => pts_nil) (fun _ _ _ _ _ => (pe_tup (pa_cons (pv 4) (pa_cons (pe_callN h_parts_or_none hg hr rfl (pa_cons (pv 1) (pa_cons (pv 4) pa_nil))) pa_nil)))))
    (pss_cons (ps_for PassesOwn.never rfl (pi_tk K rfl (pe_callN h_nests_and_tips hg (hr.mono (by decide)) rfl (pa_cons (pv 0) pa_nil))) (pg_name (i := 4) nd rfl (Or.inl rfl)) (pss_cons (ps_set (i := 5) nd rfl (Or.inl rfl) (pe_callN h_parts_or_none hg hr rfl (pa_cons (pv 0) (pa_cons (pv 4) pa_nil))))
    (pss_cons (ps_for PassesOwn.never rfl (pi_lk K rfl (pv 3)) (pg_tup rfl (pgs_cons (pg_name (i := 6) nd rfl (Or.inl rfl)) (pgs_cons (pg_name (i := 7) nd rfl (Or.inl rfl)) pgs_nil))) (pss_cons (ps_nput hr.units (pv 2) (pe_tup (pa_cons (pv 4) (pa_cons (pv 6) pa_nil))) (pe_callN h_pair_number hg (hr.mono (by decide)) rfl (pa_cons (pv 2) (pa_cons (pv 4) (pa_cons (pv 6) (pa_cons (pv 5) (pa_cons (pv 7) pa_nil)))))) rfl)
    pss_nil))
    pss_nil)))
    (pss_cons (ps_ret (pv 2))
    pss_nil)))), ?_⟩
  rintro vs H Q E ⟨n, ns, ms, g, hd, T, q⟩
  refine (show ∀ t : TS, (∀ D : Ends, (∀ p xs ep H', Ex H H' → H p = none → H' p = some (dHO P w p xs ep) → Paired (KE K H') ((prs (ntL n ns) (ntL n ms)).map (entG g)) xs → D.rt (.ref p) H') → TrR K H S0 Z0 t (startS N_table_numbers [eTree n ns, eTree n ms]) D) → t { nx := fun _ H' => Q .non H', rt := Q } (L2.start N_table_numbers vs) H from fun t main => main _ q _ _ ⟨Ex.rf, trivial, env_start hd⟩) _ fun D hD => ?_
  have hAl : (ntL n ns).length ≤ 70 := by have := ntL_len n ns; have := T.a.n10; have := T.a.len; omega
  have hCl : (ntL n ms).length ≤ 70 := by have := ntL_len n ms; have := T.b.n10; have := T.b.len; omega
  have hA10 := nt10 T.a
  have hC10 := nt10 T.b
  refine q_asgK (P := P) (w := w) ek_new fun p np => ?_
  refine q_asgL (ds := (ntL n ms).map fun l => .tuple [eLot l, eLots (poL ms l)]) (el_lcT' (xs := ntL n ms) (enc := eLot) (f := fun l => .tuple [eLot l, eLots (poL ms l)]) (ed_call (ea_cons (ed_var rfl) ea_nil) ⟨n, ms, rfl, by have := T.b.n10; omega, by have := T.b.len; omega, rfl⟩) (by omega) (fun a _ => nl_Lot a) (fun a ha => ed_tup (ea_cons (ed_var rfl) (ea_cons (ed_call (ea_cons (ed_var rfl) (ea_cons (ed_var rfl) ea_nil)) ⟨n, ms, a, rfl, T.b.l10, by have := T.b.len; omega, T.b.parts a ha, rfl⟩) ea_nil)) (by simp)) fun a _ => by simp [noL, noLs, nl_Lot, nl_Lots]) (noLs_map fun a _ => by simp [noL, noLs, nl_Lot, nl_Lots]) fun r nr => ?_
  have pr : p ≠ r := nr.a p (adr_k (i := 2) rfl)
  refine q_forT (xs := ntL n ns) (enc := eLot) (ρn := fun ρ a => ρ.set 4 (.d (eLot a))) (ed_call (ea_cons (ed_var rfl) ea_nil) ⟨n, ns, rfl, by have := T.a.n10; omega, by have := T.a.len; omega, rfl⟩) (fun a _ => nl_Lot a) (fun i ρ => ∃ s4 s5 s6 s7, ρ = [.d (eTree n ns), .d (eTree n ms), .k p P w ((prs ((ntL n ns).take i) (ntL n ms)).map (entG g)), .l r ((ntL n ms).map fun l => .tuple [eLot l, eLots (poL ms l)]), s4, s5, s6, s7]) ⟨.un, .un, .un, .un, rfl⟩ (fun Z' ρ' a _ => gt_name (nl_Lot a)) (fun Z' zk' hZ i x ρ' hx hp => ?_) fun ρ' hp => ?_
  · obtain ⟨s4, s5, s6, s7, rfl⟩ := hp
    have hxm := List.mem_of_getElem? hx
    refine q_asg (d := eLots (poL ns x)) (ed_call (ea_cons (ed_var rfl) (ea_cons (ed_var rfl) ea_nil)) ⟨n, ns, x, rfl, T.a.l10, by have := T.a.len; omega, T.a.parts x hxm, rfl⟩) (nl_Lots _) ?_
    refine q_forV (xs := ntL n ms) (enc := fun l => .tuple [eLot l, eLots (poL ms l)]) (p := r) (ρn := fun ρ y => (ρ.set 6 (.d (eLot y))).set 7 (.d (eLots (poL ms y)))) rfl (fun a _ => by simp [noL, noLs, nl_Lot, nl_Lots]) (fun j ρ => ∃ s6 s7, ρ = [.d (eTree n ns), .d (eTree n ms), .k p P w ((prs ((ntL n ns).take i) (ntL n ms) ++ ((ntL n ms).take j).map fun y => (x, y)).map (entG g)), .l r ((ntL n ms).map fun l => .tuple [eLot l, eLots (poL ms l)]), .d (eLot x), .d (eLots (poL ns x)), s6, s7]) ⟨s6, s7, by simp⟩ (fun S' Z' ρ' y _ => gt_tup2 (nl_Lot _) (nl_Lots _)) (fun S' Z' zk2 hS1 hS2 hZ2 j y ρ' hy hp => ?_) fun ρ' hp => ?_
    · obtain ⟨s6, s7, rfl⟩ := hp
      have hym := List.mem_of_getElem? hy
      have nS : ¬ S' p := fun h => by
        rcases hS1 p h with h | h
        · exact np.s h
        · exact pr h
      have hold : ∀ a b, a ∈ (ntL n ns).take i → b ∈ ntL n ms → atD ((prs ((ntL n ns).take i) (ntL n ms) ++ ((ntL n ms).take j).map fun y => (x, y)).map (entG g)) (pairK a b) = some (eI (g a b)) := fun a b ha hb => by
        rw [atD_ent, if_pos (List.mem_append_left _ (prs_mem.mpr ⟨ha, hb⟩))]
      have hnow : ∀ b, b ∈ (ntL n ms).take j → atD ((prs ((ntL n ns).take i) (ntL n ms) ++ ((ntL n ms).take j).map fun y => (x, y)).map (entG g)) (pairK x b) = some (eI (g x b)) := fun b hb => by
        rw [atD_ent, if_pos (List.mem_append_right _ (List.mem_map.mpr ⟨b, hb, rfl⟩))]
      have hfresh : (x, y) ∉ prs ((ntL n ns).take i) (ntL n ms) ++ ((ntL n ms).take j).map fun y => (x, y) := fun h => by
        rcases List.mem_append.mp h with h | h
        · exact notin_take (ordL_nodup _) hx (prs_mem.mp h).1
        · obtain ⟨z, hz, e⟩ := List.mem_map.mp h
          cases e
          exact notin_take (ordL_nodup _) hy hz
      have hsubA : ∀ q ∈ poL ns x, q ∈ (ntL n ns).take i := fun q hq => ahead (ordL_sorted _) hx (T.a.sub x hxm q hq).1 (T.a.sub x hxm q hq).2
      have hsubC : ∀ q ∈ poL ms y, q ∈ (ntL n ms).take j := fun q hq => ahead (ordL_sorted _) hy (T.b.sub y hym q hq).1 (T.b.sub y hym q hq).2
      refine q_put (p := p) (k := pairK x y) (v := eI (g x y)) rfl (ed_tup (ea_cons (ed_var rfl) (ea_cons (ed_var rfl) ea_nil)) (by simp)) (sp_pair_use (p := p) rfl (ea_cons (ed_var rfl) (ea_cons (ed_var rfl) (ea_cons (ed_var rfl) (ea_cons (ed_var rfl) ea_nil)))) (fun q hq => hold q y (hsubA q hq) hym) (fun q hq => hnow q (hsubC q hq)) (fun q hq r' hr => hold q r' (hsubA q hq) (List.mem_of_mem_take (hsubC r' hr))) (hA10 x hxm) (hC10 y hym) (po10 T.a hxm) (po10 T.b hym) (T.a.few x hxm) (T.b.few y hym) (T.pn x hxm y hym)) (keyOk_pair _ _) rfl np.b nS ?_ (by simp only [List.set_cons_succ, List.set_cons_zero, List.map_cons, List.map_nil, putL, if_neg (Ne.symm pr), ↓reduceIte, noL, nl_Lot, nl_Lots]; rfl) ?_
      · have h1 : ((ntL n ns).take i).length ≤ 70 := by rw [List.length_take]; omega
        have h2 : ((ntL n ms).take j).length ≤ 70 := by rw [List.length_take]; omega
        have h3 : ((ntL n ns).take i).length * (ntL n ms).length ≤ 70 * 70 := Nat.mul_le_mul h1 hCl
        rw [List.length_map, List.length_append, prs_len, List.length_map]
        omega
      · rw [putD_ent g x y _ hfresh]
        have e : (prs ((ntL n ns).take i) (ntL n ms) ++ ((ntL n ms).take (j + 1)).map fun y => (x, y)) = (prs ((ntL n ns).take i) (ntL n ms) ++ ((ntL n ms).take j).map fun y => (x, y)) ++ [(x, y)] := by
          rw [List.take_add_one, hy]; simp
        refine q_lf ⟨.d (eLot y), .d (eLots (poL ms y)), ?_⟩
        rw [e]
        rfl
    · obtain ⟨s6, s7, rfl⟩ := hp
      rw [List.take_length]
      refine q_lf ⟨.d (eLot x), .d (eLots (poL ns x)), s6, s7, ?_⟩
      rw [prs_take hx]
  · obtain ⟨s4, s5, s6, s7, rfl⟩ := hp
    rw [List.take_length]
    exact q_retK (p := p) rfl fun xs ep H' e _ h1 h2 => hD p xs ep H' e np.b h1 h2
/-! agreement_table -/
def R_agreement_table (ds : List PyData) (d : PyData) : Prop := ∃ (n : Nat) (ns ms : List Lot) (g : Lot → Lot → Nat), ds = [eTree n ns, eTree n ms] ∧ TabOk n ns ms g ∧ d = .tuple ((prs (ntL n ns) (ntL n ms)).map (eRec g))
abbrev sp_agreement_table (K : PySem.W.Frag) : Sp := spD K R_agreement_table
theorem len_agreement_table : ∀ ds d, R_agreement_table ds d → ds.length = 2 := by rintro ds d ⟨n, ns, ms, g, rfl, _⟩; rfl
theorem ek_table {n : Nat} {ns ms : List Lot} {g : Lot → Lot → Nat} {ta : TA} {E : XK} (h : EvA K B ta ρ [eTree n ns, eTree n ms]) (T : TabOk n ns ms g) : EvK K B P w (tCall (sp_table_numbers K P w) [] E ta) ρ ((prs (ntL n ns) (ntL n ms)).map (entG g)) := fun σ H eb ok Q q => h σ H eb ok _ fun vs H1 e1 h1 => by
  rw [List.append_nil]
  exact ⟨n, ns, ms, g, h1, T, fun p xs ep H' e2 hp h2 h3 => q p xs ep H' (e1.tr e2) (Evl.fresh_back e1 hp) h2 h3⟩
-- slots: tree:0 other:1 numbers:2c pair:3  level 8
abbrev N_agreement_table : List Str := ["tree", "other", "numbers", "pair"]
theorem sc_agreement_table : FnScope N_agreement_table ["tree", "other"] (defScope s_agreement_table) := ⟨rfl, rfl, rfl, by decide +kernel, rfl, by decide +kernel, by decide +kernel⟩
theorem bd_agreement_table : BindsBy "agreement_table" s_agreement_table ["tree", "other"] := fun _ _ _ _ _ _ us hl => match us, hl with | [_, _], _ => rfl
theorem ok_agreement_table (F : Here K mg "agreement_table" s_agreement_table) (bs : Bs mg) (h_need_alike_size : Ok P w K mg base 1 "need_alike_size" ["tree", "other"] (sp_need_alike_size K)) (h_table_numbers : Ok P w K mg base 7 "table_numbers" ["tree", "other"] (sp_table_numbers K P w)) : Ok P w K mg base 8 "agreement_table" ["tree", "other"] (sp_agreement_table K) := by
  have nd := sc_agreement_table.nd
  refine mkG F sc_agreement_table bd_agreement_table (lenD len_agreement_table) fun f cdv A outer s H E hg hr => ⟨_, (pss_cons (ps_expr (pe_callN h_need_alike_size hg (hr.mono (by decide)) rfl (pa_cons (pv 0) (pa_cons (pv 1) pa_nil))))
    (pss_cons (ps_set (i := 2) nd rfl (Or.inr rfl) (pe_callN h_table_numbers hg hr rfl (pa_cons (pv 0) (pa_cons (pv 1) pa_nil))))
    (pss_cons (ps_ret (pe_callTy (cr_tupk K rfl) rfl bs.tuple boot_tuple (pa_cons (pe_lc (own := [("pair", 3)]) rfl nd (pi_keysN (pv 2)) (blk1 rfl rfl rfl rfl rfl) (fun _ _ _ _ _ => pg_name (i := 3) nd rfl (by first | exact Or.inl rfl | exact Or.inr rfl)) (fun _ _ _ _ _ => pts_nil) (fun _ _ _ _ _ => (pe_op (op_catk K rfl) (pv 3) (pe_tup (pa_cons (pe_ngetk K P w rfl rfl rfl hr.units (pv 2) (pv 3) (fun _ _ => rfl)) pa_nil))))) pa_nil)))
    pss_nil))), runD fun B ds d hR D hD => ?_⟩
  obtain ⟨n, ns, ms, g, rfl, T, rfl⟩ := hR
  have hAl : (ntL n ns).length ≤ 70 := by have := ntL_len n ns; have := T.a.n10; have := T.a.len; omega
  have hCl : (ntL n ms).length ≤ 70 := by have := ntL_len n ms; have := T.b.n10; have := T.b.len; omega
  have hpl : (prs (ntL n ns) (ntL n ms)).length ≤ 4900 := by
    rw [prs_len]
    exact Nat.mul_le_mul hAl hCl
  refine q_drop (ed_call (d := .none) (ea_cons (ed_var rfl) (ea_cons (ed_var rfl) ea_nil)) ⟨n, ns, ms, rfl, rfl⟩) ?_
  refine q_asgK (P := P) (w := w) (ek_table (ea_cons (ed_var rfl) (ea_cons (ed_var rfl) ea_nil)) T) fun p np => ?_
  refine q_ret (d := .tuple ((prs (ntL n ns) (ntL n ms)).map (eRec g))) (ed_cb (ea_cons (ed_L (el_is (el_lcK (p := p) (f := fun e => match e.1 with | .tuple ds => .tuple (ds ++ [e.2]) | d => d) rfl (by simpa using (by omega : (prs (ntL n ns) (ntL n ms)).length ≤ 50000)) (fun e he => ?_) fun e he => ?_) ?_)) ea_nil) rc_tupL) fun v H' e _ h => hD v H' e h
  · obtain ⟨⟨x, y⟩, hq, rfl⟩ := List.mem_map.mp he
    refine ed_is (ed_op (x := pairK x y) (ed_var rfl) (ed_tup (ea_cons (ed_nget (p := p) (k := pairK x y) (v := eI (g x y)) rfl (ed_var rfl) (keyOk_pair _ _) (by rw [atD_ent, if_pos hq])) ea_nil) (by simp)) (rd_catT (by simp))) rfl
  · obtain ⟨⟨x, y⟩, hq, rfl⟩ := List.mem_map.mp he
    simp [entG, pairK, noL, noLs, nl_Lot, nl_I]
  · rw [List.map_map]
    rfl
/-! distance -/
def R_distance (ds : List PyData) (d : PyData) : Prop := ∃ (n : Nat) (ns ms : List Lot) (g : Lot → Lot → Nat) (x y : Lot), ds = [eTree n ns, eTree n ms] ∧ TabOk n ns ms g ∧ (ntL n ns).getLast? = some x ∧ (ntL n ms).getLast? = some y ∧ g x y ≤ n ∧ d = eI (n - g x y)
abbrev sp_distance (K : PySem.W.Frag) : Sp := spD K R_distance
theorem len_distance : ∀ ds d, R_distance ds d → ds.length = 2 := by rintro ds d ⟨n, ns, ms, g, x, y, rfl, _⟩; rfl
theorem prs_last {A C : List Lot} {x y : Lot} (hx : A.getLast? = some x) (hy : C.getLast? = some y) : (prs A C).getLast? = some (x, y) := by
  obtain ⟨A', rfl⟩ := List.getLast?_eq_some_iff.mp hx
  obtain ⟨C', rfl⟩ := List.getLast?_eq_some_iff.mp hy
  unfold prs
  rw [List.flatMap_append]
  simp
theorem atI_last {ds : List PyData} {z : PyData} (h : ds.getLast? = some z) : atI ds (-1) = some z := by
  have hne : ds ≠ [] := by rintro rfl; cases h
  have hl : 0 < ds.length := List.length_pos_iff.mpr hne
  unfold atI ixN
  rw [if_neg (by omega), if_pos (by omega)]
  show ds[((-1 : Int) + ds.length).toNat]? = some z
  rw [List.getLast?_eq_getElem?] at h
  rw [← h]
  congr 1
  omega
-- slots: tree:0 other:1  level 9
abbrev N_distance : List Str := ["tree", "other"]
theorem sc_distance : FnScope N_distance ["tree", "other"] (defScope s_distance) := ⟨rfl, rfl, rfl, by decide +kernel, rfl, by decide +kernel, by decide +kernel⟩
theorem bd_distance : BindsBy "distance" s_distance ["tree", "other"] := fun _ _ _ _ _ _ us hl => match us, hl with | [_, _], _ => rfl
theorem okX_distance (F : Here K mg "distance" s_distance) (bs : Bs mg) (h_agreement_table : Ok P w K mg base 8 "agreement_table" ["tree", "other"] (sp_agreement_table K)) : OkX P w K mg base 9 "distance" "tree" "other" (sp_distance K) := by
  have nd := sc_distance.nd
  refine mkGX (hk := fun _ _ _ _ _ _ _ _ => rfl) F sc_distance bd_distance (lenD len_distance) fun f cdv A outer s H E hg hr => ⟨_, (pss_cons (ps_ret (pe_op op_sub (pe_ix (ix_tk K rfl) (pv 0) pe_int (fun _ _ => rfl)) (pe_ix (ix_tk K rfl) (pe_ix (ix_tk K rfl) (pe_callN h_agreement_table hg hr rfl (pa_cons (pv 0) (pa_cons (pv 1) pa_nil))) (pe_un un_neg pe_int) (fun _ _ => rfl)) pe_int (fun _ _ => rfl))))
    pss_nil), runD fun B ds d hR D hD => ?_⟩
  obtain ⟨n, ns, ms, g, x, y, rfl, T, hx, hy, hle, rfl⟩ := hR
  have hlast : ((prs (ntL n ns) (ntL n ms)).map (eRec g)).getLast? = some (eRec g (x, y)) := by
    rw [List.getLast?_map, prs_last hx hy]; rfl
  refine q_ret (d := eI (n - g x y)) (ed_is (ed_op (ed_size (ed_var rfl)) (ed_op (x := eRec g (x, y)) (ed_op (ed_call (ea_cons (ed_var rfl) (ea_cons (ed_var rfl) ea_nil)) ⟨n, ns, ms, g, rfl, T, rfl⟩) (ed_un ed_int ru_neg) (rd_ixT (atI_last hlast))) ed_int (rd_ixT (ds := [eLot x, eLot y, eI (g x y)]) (i := 2) (z := eI (g x y)) rfl)) rd_sub) ?_) fun v H' e _ h => hD v H' e h
  rw [sub_nat hle]; rfl
end
end Fk
/-! the walks, 12: the law's own defs without draws -/
namespace Fk
open PySem PySem.Spec PyProof.Rows L2
theorem ix_sk {X : Cx} (K : PySem.W.Frag) (hK : X.K = K) : IxR X (rIx K) := hK ▸ ix_seq
def crossL (a b : Lot) : Bool := decide (0 < (a.filter fun x => decide (x ∈ b)).length) && decide ((a.filter fun x => decide (x ∈ b)).length < min a.length b.length)
def lotsGo (n : Nat) : List Lot := (List.range n).foldl (fun f x => f ++ f.map fun l => l ++ [x]) [[]]
def lotsL (n least : Nat) : List Lot := sortL ((lotsGo n).filter fun l => decide (least ≤ l.length))
def keptL (nest g : Lot) : Lot := nest.filter fun x => decide (x ∈ g)
def cutStep (g : Lot) (acc : List Lot) (nest : Lot) : List Lot := if (decide (1 < (keptL nest g).length) && decide (keptL nest g ∉ acc)) = true then acc ++ [keptL nest g] else acc
def cutL (ns : List Lot) (g : Lot) : List Lot := sortL (ns.foldl (cutStep g) [])
def namedL (ns : List Lot) (line : Lot) : List Lot := sortL (nameL ns line)
def agreeL (n : Nat) (ns ms : List Lot) : List Lot := (lotsL n 0).filter fun g => decide (cutL ns g = cutL ms g)
theorem lotsGo_succ (n : Nat) : lotsGo (n + 1) = lotsGo n ++ (lotsGo n).map fun l => l ++ [n] := by
  unfold lotsGo
  rw [List.range_succ, List.foldl_append]; rfl
theorem lotsGo_len : ∀ n, (lotsGo n).length = 2 ^ n
  | 0 => rfl
  | n + 1 => by rw [lotsGo_succ, List.length_append, List.length_map, lotsGo_len n]; omega
theorem lotsGo_lt : ∀ n, ∀ l ∈ lotsGo n, (∀ x ∈ l, x < n) ∧ l.length ≤ n
  | 0, l, h => by
    have : l = [] := by simpa [lotsGo] using h
    subst this; simp
  | n + 1, l, h => by
    rw [lotsGo_succ] at h
    rcases List.mem_append.mp h with h | h
    · obtain ⟨h1, h2⟩ := lotsGo_lt n l h
      exact ⟨fun x hx => by have := h1 x hx; omega, by omega⟩
    · obtain ⟨m, hm, rfl⟩ := List.mem_map.mp h
      obtain ⟨h1, h2⟩ := lotsGo_lt n m hm
      refine ⟨fun x hx => ?_, by simp; omega⟩
      rcases List.mem_append.mp hx with hx | hx
      · have := h1 x hx; omega
      · rw [List.mem_singleton.mp hx]; omega
theorem lotsL_mem {n least : Nat} {l : Lot} : l ∈ lotsL n least ↔ l ∈ lotsGo n ∧ least ≤ l.length := by
  unfold lotsL
  rw [sortL_mem, List.mem_filter]; simp
theorem cut_mem {g : Lot} : ∀ {ns acc : List Lot} {x : Lot}, x ∈ ns.foldl (cutStep g) acc ↔ x ∈ acc ∨ (1 < x.length ∧ ∃ nest ∈ ns, x = keptL nest g)
  | [], acc, x => by simp
  | nest :: ns, acc, x => by
    rw [List.foldl_cons, cut_mem (ns := ns)]
    unfold cutStep
    by_cases h1 : 1 < (keptL nest g).length
    · by_cases h2 : keptL nest g ∈ acc
      · rw [if_neg (by simp [h2])]
        constructor
        · rintro (h | ⟨h, m, hm, e⟩)
          · exact .inl h
          · exact .inr ⟨h, m, List.mem_cons_of_mem _ hm, e⟩
        · rintro (h | ⟨h, m, hm, e⟩)
          · exact .inl h
          · rcases List.mem_cons.mp hm with rfl | hm
            · rw [e]; exact .inl h2
            · exact .inr ⟨h, m, hm, e⟩
      · rw [if_pos (by simp [h1, h2])]
        constructor
        · rintro (h | ⟨h, m, hm, e⟩)
          · rcases List.mem_append.mp h with h | h
            · exact .inl h
            · rw [List.mem_singleton.mp h]
              exact .inr ⟨h1, nest, List.mem_cons_self, rfl⟩
          · exact .inr ⟨h, m, List.mem_cons_of_mem _ hm, e⟩
        · rintro (h | ⟨h, m, hm, e⟩)
          · exact .inl (List.mem_append_left _ h)
          · rcases List.mem_cons.mp hm with rfl | hm
            · rw [e]; exact .inl (List.mem_append_right _ (List.mem_singleton.mpr rfl))
            · exact .inr ⟨h, m, hm, e⟩
    · rw [if_neg (by simp [h1])]
      constructor
      · rintro (h | ⟨h, m, hm, e⟩)
        · exact .inl h
        · exact .inr ⟨h, m, List.mem_cons_of_mem _ hm, e⟩
      · rintro (h | ⟨h, m, hm, e⟩)
        · exact .inl h
        · rcases List.mem_cons.mp hm with rfl | hm
          · rw [e] at h; exact absurd h h1
          · exact .inr ⟨h, m, hm, e⟩
theorem cut_nodup {g : Lot} : ∀ {ns acc : List Lot}, acc.Nodup → (ns.foldl (cutStep g) acc).Nodup
  | [], _, h => h
  | nest :: ns, acc, h => by
    rw [List.foldl_cons]
    refine cut_nodup ?_
    unfold cutStep
    split
    · rename_i hc
      have hc : ¬ keptL nest g ∈ acc := by
        rw [Bool.and_eq_true] at hc
        simpa using hc.2
      rw [List.nodup_append]
      refine ⟨h, by simp, fun a ha b hb => ?_⟩
      rw [List.mem_singleton.mp hb]
      intro e; exact hc (e ▸ ha)
    · exact h
theorem cutL_mem {ns : List Lot} {g x : Lot} : x ∈ cutL ns g ↔ 1 < x.length ∧ ∃ nest ∈ ns, x = keptL nest g := by
  unfold cutL
  rw [sortL_mem, cut_mem]; simp
theorem cutL_nodup (ns : List Lot) (g : Lot) : (cutL ns g).Nodup := (isort_perm _ _).nodup_iff.mpr (cut_nodup .nil)
theorem cutL_ext {ns ms : List Lot} {g h : Lot} (e : ∀ x, x ∈ cutL ns g ↔ x ∈ cutL ms h) : cutL ns g = cutL ms h := sorted_ext (sortL_sorted _) (sortL_sorted _) (cutL_nodup _ _) (cutL_nodup _ _) e
theorem cut_len {g : Lot} : ∀ {ns acc : List Lot}, (ns.foldl (cutStep g) acc).length ≤ acc.length + ns.length
  | [], _ => by simp
  | nest :: ns, acc => by
    have h1 := cut_len (g := g) (ns := ns) (acc := cutStep g acc nest)
    have h2 : (cutStep g acc nest).length ≤ acc.length + 1 := by
      unfold cutStep
      split <;> simp
    rw [List.foldl_cons, List.length_cons]; omega
theorem kept10 {nest g : Lot} (h : Lt10 nest) : Lt10 (keptL nest g) := fun x hx => h x (List.mem_filter.mp hx).1
theorem cut10 {ns : List Lot} {g : Lot} (h : Lt10s ns) : Lt10s (cutL ns g) := fun x hx => by
  obtain ⟨_, nest, hn, rfl⟩ := cutL_mem.mp hx
  exact kept10 (h nest hn)
section
variable {P : Program} {w : World} {K : PySem.W.Frag} {mg : Str → Option Value} {base : Heap} {B : Hp} {ρ ρ' : List Sl} {te tf ti tl : TE} {tt : TT} {S : Addr → Prop} {Z : Hp → Prop} {tz : TS} {D : Ends}
theorem st_ {H : Hp} {v : V} {d : PyData} (h : Dp K H v d) : SlotOk K B H (some v) (.t d) := ⟨v, rfl, h⟩
/-- [x for x in xs if ..], whatever the items are -/
theorem ed_filt {α : Type} {xs : List α} {enc : α → PyData} {keep : α → Bool} {j : Nat} (hj : j < ρ.length) (h : EvD K B tl ρ (.list (xs.map enc))) (hlen : xs.length ≤ 50000)
    (ht : ∀ a ∈ xs, EvT K B tt (ρ.set j (.t (enc a))) (keep a)) : EvD K B (tLc (iList K tl) (gName j) tt (tVar j) [j]) ρ (.list ((xs.filter keep).map enc)) := fun σ H eb ok Q q => h σ H eb ok _ fun v H1 e1 h1 => by
  obtain ⟨a, ys, rfl, hs, ha⟩ := dp_lst h1
  have hsl : j < σ.length := by rw [ok.len]; exact hj
  refine ⟨a, rfl, ⟨ys, hs⟩, fun D hD => ?_⟩
  have hyl : ys.length = xs.length := by rw [dps_len ha, List.length_map]
  refine lc_list (K := K) (a := a) (xs := ys) (fun i H' => H1 D = none ∧ Ex H1 H' ∧ ∃ acc, H' D = some (.lst acc) ∧ DpAll K H1 acc (((xs.take i).filter keep).map enc)) ⟨hD, Evl.Ex.new hD, [], upd_same, by simpa using DpAll.nil⟩ (fun i H' _ p => Evl.ex_l p.2.1 hs) (fun i y H' hy p => ?_) fun H' p => ?_
  · obtain ⟨d, hd, hyd⟩ := dps_get ha hy
    rw [List.getElem?_map] at hd
    cases hxi : xs[i]? with
    | none => rw [hxi] at hd; simp at hd
    | some c =>
      rw [hxi] at hd
      obtain rfl : enc c = d := by simpa using hd
      obtain ⟨h0, h2, acc, h3, h4⟩ := p
      show wipe ((wipe σ [j]).set j (some y)) [j] = wipe σ [j] ∧ tt ((wipe σ [j]).set j (some y)) H' _
      rw [wipe1s]
      refine ⟨by rw [← wipe1s (σ := σ), wipe1], ?_⟩
      have hal : acc.length ≤ xs.length := by
        rw [dps_len h4, List.length_map]
        exact Nat.le_trans (List.length_filter_le _ _) (by rw [List.length_take]; omega)
      refine ht c (List.mem_of_getElem? hxi) _ H' ((eb.tr e1).tr h2) (((ok.ex e1).ex h2).set (st_ (dp_ex h2 _ _ hyd)) j) _ fun H3 e3 => ?_
      cases hk : keep c with
      | true =>
        rw [if_pos rfl]
        refine ⟨y, by rw [List.getElem?_set_self hsl], acc, e3 _ _ h3, Evl.sz_lt (by omega), h0, Evl.Ex.mut (h2.tr e3) h0, acc ++ [y], upd_same, ?_⟩
        rw [take_succ_map hxi, if_pos hk]
        exact dps_app h4 (.cons hyd .nil)
      | false =>
        rw [if_neg Bool.false_ne_true]
        refine ⟨h0, h2.tr e3, acc, e3 _ _ h3, ?_⟩
        rw [take_succ_map hxi, hk]
        simpa using h4
  · obtain ⟨h0, h2, acc, h3, h4⟩ := p
    rw [hyl, List.take_length] at h4
    exact q _ H' (e1.tr h2) (.lst (SqL.of h3) (dps_ex h2 _ _ h4))
theorem rd_ixSL {ds : List PyData} {i : Int} {z : PyData} (e : atI ds i = some z) : RD K (rIx K) (.list ds) (.int i) z := fun v u H h1 h2 Q q => .inl (rd_ixL e v u H h1 h2 Q q)
theorem rd_ixST {ds : List PyData} {i : Int} {z : PyData} (e : atI ds i = some z) : RD K (rIx K) (.tuple ds) (.int i) z := fun v u H h1 h2 Q q => .inr (.inl (rd_ixT e v u H h1 h2 Q q))
/-! _law_rank -/
abbrev R__law_rank := R_lot_key
abbrev sp__law_rank (K : PySem.W.Frag) : Sp := spD K R__law_rank
theorem len__law_rank : ∀ ds d, R__law_rank ds d → ds.length = 1 := len_lot_key
-- slots: _law_own:0  level 1
abbrev N__law_rank : List Str := ["_law_own"]
theorem sc__law_rank : FnScope N__law_rank ["_law_own"] (defScope s__law_rank) := ⟨rfl, rfl, rfl, by decide +kernel, rfl, by decide +kernel, by decide +kernel⟩
theorem bd__law_rank : BindsBy "_law_rank" s__law_rank ["_law_own"] := fun _ _ _ _ _ _ us hl => match us, hl with | [_], _ => rfl
theorem ok__law_rank (F : Here K mg "_law_rank" s__law_rank) (bs : Bs mg) : OkP P w K mg base 1 "_law_rank" ["_law_own"] (sp__law_rank K) := by
  have nd := sc__law_rank.nd
  refine mkP F sc__law_rank bd__law_rank (lenD len__law_rank) fun f cdv A outer s H E hr => ⟨_, (pss_cons (ps_ret (pe_tup (pa_cons (pe_callB (cr_lenk K rfl) rfl bs.len boot_len (pa_cons (pv 0) pa_nil)) (pa_cons (pv 0) pa_nil))))
    pss_nil), runD fun B ds d hR D hD => ?_⟩
  obtain ⟨l, rfl, rfl⟩ := hR
  exact q_ret (d := eKey l) (ed_tup (ea_cons (ed_lenLot (ed_var rfl)) (ea_cons (ed_var rfl) ea_nil)) (by simp)) fun v H' e _ h => hD v H' e h
/-- sorted(.., key=_law_rank) of lots -/
theorem el_rank {l : List Lot} {te : TE} (h : EvD K B te ρ (.list (l.map eLot))) : EvL K B (tSortK K (sp__law_rank K) (tCons te tNil)) ρ ((sortL l).map eLot) := by
  refine el_is (el_sortK (enc := eLot) (kf := kL) (l := l) h (fun a _ => ⟨a, rfl, kL_L a⟩) ?_ ?_ ?_ ?_) ?_
  · simp only [kL_L]; exact alike_keys _ id
  · simp only [kL_L]; exact sortable_keys _ id
  · exact fun a _ => by rw [kL_L]; exact nl_Key _
  · exact fun a _ => by rw [kL_L]; exact depth_key _
  · rw [← msortL l]
    congr 1
    congr 1
    funext a b
    exact key_le (lf := id) (kL_L a) (kL_L b)
theorem el_rankT {l : List Lot} {te : TE} (h : EvD K B te ρ (eLots l)) : EvL K B (tSortK K (sp__law_rank K) (tCons te tNil)) ρ ((sortL l).map eLot) := by
  refine el_is (el_sortKT (enc := eLot) (kf := kL) (l := l) h (fun a _ => ⟨a, rfl, kL_L a⟩) ?_ ?_ ?_ ?_) ?_
  · simp only [kL_L]; exact alike_keys _ id
  · simp only [kL_L]; exact sortable_keys _ id
  · exact fun a _ => by rw [kL_L]; exact nl_Key _
  · exact fun a _ => by rw [kL_L]; exact depth_key _
  · rw [← msortL l]
    congr 1
    congr 1
    funext a b
    exact key_le (lf := id) (kL_L a) (kL_L b)
/-! _law_crosses -/
def R__law_crosses (ds : List PyData) (d : PyData) : Prop := ∃ a b : Lot, ds = [eLot a, eLot b] ∧ a.length ≤ 1000 ∧ d = .bool (crossL a b)
abbrev sp__law_crosses (K : PySem.W.Frag) : Sp := spD K R__law_crosses
theorem len__law_crosses : ∀ ds d, R__law_crosses ds d → ds.length = 2 := by rintro ds d ⟨a, b, rfl, _⟩; rfl
-- slots: _law_one:0 _law_two:1c _law_shared:2 _law_leaf:3  level 1
abbrev N__law_crosses : List Str := ["_law_one", "_law_two", "_law_shared", "_law_leaf"]
theorem sc__law_crosses : FnScope N__law_crosses ["_law_one", "_law_two"] (defScope s__law_crosses) := ⟨rfl, rfl, rfl, by decide +kernel, rfl, by decide +kernel, by decide +kernel⟩
theorem bd__law_crosses : BindsBy "_law_crosses" s__law_crosses ["_law_one", "_law_two"] := fun _ _ _ _ _ _ us hl => match us, hl with | [_, _], _ => rfl
theorem ok__law_crosses (F : Here K mg "_law_crosses" s__law_crosses) (bs : Bs mg) : Ok P w K mg base 1 "_law_crosses" ["_law_one", "_law_two"] (sp__law_crosses K) := by
  have nd := sc__law_crosses.nd
  refine mkG F sc__law_crosses bd__law_crosses (lenD len__law_crosses) fun f cdv A outer s H E hg hr => ⟨_, (pss_cons (ps_set (i := 2) nd rfl (Or.inl rfl) (pe_callB (cr_lenk K rfl) rfl bs.len boot_len (pa_cons (pe_lc (own := [("_law_leaf", 3)]) rfl nd (pi_tk K rfl (pv 0)) (blk1 rfl rfl rfl rfl rfl) (fun _ _ _ _ _ => pg_name (i := 3) nd rfl (by first | exact Or.inl rfl | exact Or.inr rfl)) (fun _ _ _ _ _ => pts_one (pt_cmpR (op_ink K rfl (hu65 hr)) (pv 3) (pv 1) (by with_unfolding_all rfl))) (fun _ _ _ _ _ => (pv 3))) pa_nil)))
    (pss_cons (ps_ret (pe_and (pe_cmpR op_gt (pv 2) pe_int (nomark _)) (pe_one (pe_cmpR op_lt (pv 2) (pe_callB (cr_min2 rfl) rfl bs.min (by decide +kernel) (pa_cons (pe_callB (cr_lenk K rfl) rfl bs.len boot_len (pa_cons (pv 0) pa_nil)) (pa_cons (pe_callB (cr_lenk K rfl) rfl bs.len boot_len (pa_cons (pv 1) pa_nil)) pa_nil))) (nomark _)))))
    pss_nil)), runD fun B ds d hR D hD => ?_⟩
  obtain ⟨a, b, rfl, hl, rfl⟩ := hR
  refine q_asg (d := eI (a.filter fun x => decide (x ∈ b)).length) (ed_lenL (ed_L (el_lcT (xs := a) (enc := eI) (f := eI) (keep := fun x => decide (x ∈ b)) (ed_var rfl) (by omega) (fun _ _ => rfl) (fun x _ => et_test (ed_inLot (ed_var rfl) (ed_var rfl))) (fun x _ _ => ed_var rfl) fun _ _ _ => rfl)) (by simp)) rfl ?_
  refine q_ret (d := .bool (crossL a b)) (ed_andV (ed_gtN (b := 0) (ed_var rfl) ed_int) fun _ => ed_ltN (b := min a.length b.length) (ed_var rfl) (ed_is (ed_cb (ea_cons (ed_lenLot (ed_var rfl)) (ea_cons (ed_lenLot (ed_var rfl)) ea_nil)) rc_min2) ?_)) fun v H' e _ h => hD v H' e h
  unfold eI
  congr 1
  omega
/-! _law_named -/
def R__law_named (ds : List PyData) (d : PyData) : Prop := ∃ (n : Nat) (ns : List Lot) (line : Lot) (t : PyData), ds = [eTree n ns, t] ∧ (t = eLot line ∨ t = .list (line.map eI)) ∧ (∀ l ∈ ns, ∀ x ∈ l, x < line.length) ∧ (∀ l ∈ ns, l.length ≤ 1000) ∧ ns.length ≤ 1000 ∧ d = eTree n (namedL ns line)
abbrev sp__law_named (K : PySem.W.Frag) : Sp := spD K R__law_named
theorem len__law_named : ∀ ds d, R__law_named ds d → ds.length = 2 := by rintro ds d ⟨n, ns, line, t, rfl, _⟩; rfl
-- slots: _law_own:0 _law_line_here:1c _law_nests:2 _law_nest:3 _law_leaf:4  level 4
abbrev N__law_named : List Str := ["_law_own", "_law_line_here", "_law_nests", "_law_nest", "_law_leaf"]
theorem sc__law_named : FnScope N__law_named ["_law_own", "_law_line_here"] (defScope s__law_named) := ⟨rfl, rfl, rfl, by decide +kernel, rfl, by decide +kernel, by decide +kernel⟩
theorem bd__law_named : BindsBy "_law_named" s__law_named ["_law_own", "_law_line_here"] := fun _ _ _ _ _ _ us hl => match us, hl with | [_, _], _ => rfl
theorem ok__law_named (F : Here K mg "_law_named" s__law_named) (bs : Bs mg) (h__law_rank : OkP P w K mg base 1 "_law_rank" ["_law_own"] (sp__law_rank K)) : Ok P w K mg base 4 "_law_named" ["_law_own", "_law_line_here"] (sp__law_named K) := by
  have nd := sc__law_named.nd
  refine mkG F sc__law_named bd__law_named (lenD len__law_named) fun f cdv A outer s H E hg hr => ⟨_, (pss_cons (ps_setLc (own := [("_law_nest", 3)]) (i := 2) rfl nd rfl rfl rfl (pi_tk K rfl (pe_ix (ix_tk K rfl) (pv 0) pe_int (fun _ _ => rfl))) (blk1 rfl rfl rfl rfl rfl) (fun _ _ _ _ _ => pg_name (i := 3) nd rfl (by first | exact Or.inl rfl | exact Or.inr rfl)) (fun _ _ _ _ _ => pts_nil) (fun _ _ _ _ _ => (pe_callTy (cr_tupk K rfl) rfl bs.tuple boot_tuple (pa_cons (pe_callB (cr_sortIk K rfl) rfl bs.sorted (by decide +kernel) (pa_cons (pe_lc (own := [("_law_leaf", 4)]) rfl nd (pi_tk K rfl (pv 3)) (blk1 rfl rfl rfl rfl rfl) (fun _ _ _ _ _ => pg_name (i := 4) nd rfl (by first | exact Or.inl rfl | exact Or.inr rfl)) (fun _ _ _ _ _ => pts_nil) (fun _ _ _ _ _ => (pe_ix (ix_sk K rfl) (pv 1) (pv 4) (fun _ _ => rfl)))) pa_nil)) pa_nil))))
    (pss_cons (ps_ret (pe_tup (pa_cons (pe_ix (ix_tk K rfl) (pv 0) pe_int (fun _ _ => rfl)) (pa_cons (pe_callTy (cr_tupk K rfl) rfl bs.tuple boot_tuple (pa_cons (pe_sortK h__law_rank (hr.mono (by decide)) rfl bs.sorted rfl (pa_cons (pv 2) pa_nil)) pa_nil)) pa_nil))))
    pss_nil)), runD fun B ds d hR D hD => ?_⟩
  obtain ⟨n, ns, line, t, rfl, ht, hx, hll, hl, rfl⟩ := hR
  refine q_asgL (ds := (nameL ns line).map eLot) (el_is (el_lcT' (xs := ns) (enc := eLot) (f := fun l => eLot (sortN (l.map fun x => line.getD x 0))) (ed_nests (ed_var rfl)) (by omega) (fun a _ => nl_Lot a) (fun l hm => ed_cb (ea_cons (ed_L (el_is (el_cb (ea_cons (ed_L (el_is (el_lcT' (xs := l) (enc := eI) (f := fun x => eI (line.getD x 0)) (ed_var rfl) (by have := hll l hm; omega) (fun _ _ => rfl) (fun x hxm => ed_op (ed_var rfl) (ed_var rfl) ?_) fun _ _ => rfl) (show _ = ((l.map fun x => line.getD x 0).map fun x : Nat => (x : Int)).map PyData.int by rw [List.map_map, List.map_map]; rfl))) ea_nil) rl_sortI) (by rw [sortI_N, ← map_eI]))) ea_nil) rc_tupL) fun a _ => nl_Lot _) (show _ = (nameL ns line).map eLot by unfold nameL; rw [List.map_map]; rfl)) (nls_Lot _) fun p np => ?_
  · rcases ht with rfl | rfl
    · exact rd_ixST (i := (x : Int)) (atI_I (hx l hm x hxm))
    · exact rd_ixSL (i := (x : Int)) (atI_I (hx l hm x hxm))
  exact q_ret (d := eTree n (namedL ns line)) (ed_tup (ea_cons (ed_size (ed_var rfl)) (ea_cons (d := eLots (namedL ns line)) (ed_cb (ea_cons (ed_L (el_rank (ed_varL rfl))) ea_nil) rc_tupL) ea_nil)) (by simp)) fun v H' e _ h => hD v H' e h
/-! _law_lots -/
def R__law_lots (ds : List PyData) (es : List PyData) : Prop := ∃ n least : Nat, ds = [eI n, eI least] ∧ n ≤ 9 ∧ es = (lotsL n least).map eLot
abbrev sp__law_lots (K : PySem.W.Frag) : Sp := spL K R__law_lots
theorem len__law_lots : ∀ ds d, R__law_lots ds d → ds.length = 2 := by rintro ds d ⟨n, l, rfl, _⟩; rfl
-- slots: _law_size:0 _law_least:1c _law_found:2 _law_leaf:3c _law_own:4  level 4
abbrev N__law_lots : List Str := ["_law_size", "_law_least", "_law_found", "_law_leaf", "_law_own"]
theorem sc__law_lots : FnScope N__law_lots ["_law_size", "_law_least"] (defScope s__law_lots) := ⟨rfl, rfl, rfl, by decide +kernel, rfl, by decide +kernel, by decide +kernel⟩
theorem bd__law_lots : BindsBy "_law_lots" s__law_lots ["_law_size", "_law_least"] := fun _ _ _ _ _ _ us hl => match us, hl with | [_, _], _ => rfl
theorem ok__law_lots (F : Here K mg "_law_lots" s__law_lots) (bs : Bs mg) (h__law_rank : OkP P w K mg base 1 "_law_rank" ["_law_own"] (sp__law_rank K)) : Ok P w K mg base 4 "_law_lots" ["_law_size", "_law_least"] (sp__law_lots K) := by
  have nd := sc__law_lots.nd
  refine mkG F sc__law_lots bd__law_lots (lenL len__law_lots) fun f cdv A outer s H E hg hr => ⟨_, (pss_cons (ps_set (i := 2) nd rfl (Or.inl rfl) (pe_lst (pa_cons (pe_tup pa_nil) pa_nil)))
    (pss_cons (ps_for PassesOwn.never rfl (pi_range1 rfl bs.range (pa_cons (pv 0) pa_nil)) (pg_name (i := 3) nd rfl (Or.inr rfl)) (pss_cons (ps_set (i := 2) nd rfl (Or.inl rfl) (pe_op op_cat (pv 2) (pe_lc (own := [("_law_own", 4)]) rfl nd (pi_lk K rfl (pv 2)) (blk1 rfl rfl rfl rfl rfl) (fun _ _ _ _ _ => pg_name (i := 4) nd rfl (by first | exact Or.inl rfl | exact Or.inr rfl)) (fun _ _ _ _ _ => pts_nil) (fun _ _ _ _ _ => (pe_op (op_catk K rfl) (pv 4) (pe_tup (pa_cons (pv 3) pa_nil)))))))
    pss_nil))
    (pss_cons (ps_ret (pe_sortK h__law_rank (hr.mono (by decide)) rfl bs.sorted rfl (pa_cons (pe_lc (own := [("_law_own", 4)]) rfl nd (pi_lk K rfl (pv 2)) (blk1 rfl rfl rfl rfl rfl) (fun _ _ _ _ _ => pg_name (i := 4) nd rfl (by first | exact Or.inl rfl | exact Or.inr rfl)) (fun _ _ _ _ _ => pts_one (pt_cmpR op_ge (pe_callB (cr_lenk K rfl) rfl bs.len boot_len (pa_cons (pv 4) pa_nil)) (pv 1) (nomark _))) (fun _ _ _ _ _ => (pv 4))) pa_nil)))
    pss_nil))), runL fun B ds es hR D hD => ?_⟩
  obtain ⟨n, least, rfl, hn, rfl⟩ := hR
  refine q_asgL (ds := (lotsGo 0).map eLot) (el_lst (ea_cons (ed_tup ea_nil (by simp)) ea_nil) (by decide)) rfl fun p0 np0 => ?_
  refine q_forR (n := n) (j := 3) (ea_cons (ed_var rfl) ea_nil) (by omega) (fun i ρ => ∃ p s3 s4, ρ = [.d (eI n), .d (eI least), .l p ((lotsGo i).map eLot), s3, s4]) ⟨p0, .un, .un, rfl⟩ (fun i ρ' hi hp => ?_) fun ρ' hp => ?_
  · obtain ⟨p, s3, s4, rfl⟩ := hp
    have h9 : (lotsGo i).length ≤ 2 ^ 9 := by rw [lotsGo_len]; exact Nat.pow_le_pow_right (by decide) (by omega)
    refine q_asgL (ds := (lotsGo (i + 1)).map eLot) (el_is (el_catVL (p := p) (ds := (lotsGo i).map eLot) (es := (lotsGo i).map fun l => eLot (l ++ [i])) rfl (el_lcL' (xs := lotsGo i) (enc := eLot) (f := fun l => eLot (l ++ [i])) (ed_varL rfl) (by omega) (fun a _ => nl_Lot a) (fun l hl => ed_catLot (b := [i]) (by have := (lotsGo_lt i l hl).2; simp; omega) (ed_var rfl) (ed_tup (ea_cons (ed_var rfl) ea_nil) (by simp))) fun a _ => nl_Lot _) (by simp; omega)) (by rw [lotsGo_succ, List.map_append, List.map_map]; rfl)) (nls_Lot _) fun q nq => q_lf ⟨q, _, s4, rfl⟩
  · obtain ⟨p, s3, s4, rfl⟩ := hp
    have h9 : (lotsGo n).length ≤ 2 ^ 9 := by rw [lotsGo_len]; exact Nat.pow_le_pow_right (by decide) (by omega)
    exact q_retL (ds := (lotsL n least).map eLot) (el_rank (ed_L (el_lcL (xs := lotsGo n) (enc := eLot) (f := eLot) (keep := fun l => decide (least ≤ l.length)) (ed_varL rfl) (by omega) (fun a _ => nl_Lot a) (fun a _ => et_test (ed_geN (ed_lenLot (ed_var rfl)) (ed_var rfl))) (fun a _ _ => ed_var rfl) fun a _ _ => nl_Lot a))) hD
/-! _law_cut -/
def R__law_cut (ds : List PyData) (es : List PyData) : Prop := ∃ (n : Nat) (ns : List Lot) (g : Lot), ds = [eTree n ns, eLot g] ∧ Lt10s ns ∧ ns.length ≤ 1000 ∧ (∀ l ∈ ns, l.length ≤ 1000) ∧ es = (cutL ns g).map eLot
abbrev sp__law_cut (K : PySem.W.Frag) : Sp := spL K R__law_cut
theorem len__law_cut : ∀ ds d, R__law_cut ds d → ds.length = 2 := by rintro ds d ⟨n, ns, g, rfl, _⟩; rfl
-- slots: _law_own:0 _law_group:1c _law_found:2 _law_nest:3 _law_kept:4 _law_leaf:5  level 4
abbrev N__law_cut : List Str := ["_law_own", "_law_group", "_law_found", "_law_nest", "_law_kept", "_law_leaf"]
theorem sc__law_cut : FnScope N__law_cut ["_law_own", "_law_group"] (defScope s__law_cut) := ⟨rfl, rfl, rfl, by decide +kernel, rfl, by decide +kernel, by decide +kernel⟩
theorem bd__law_cut : BindsBy "_law_cut" s__law_cut ["_law_own", "_law_group"] := fun _ _ _ _ _ _ us hl => match us, hl with | [_, _], _ => rfl
theorem ok__law_cut (F : Here K mg "_law_cut" s__law_cut) (bs : Bs mg) (h__law_rank : OkP P w K mg base 1 "_law_rank" ["_law_own"] (sp__law_rank K)) : Ok P w K mg base 4 "_law_cut" ["_law_own", "_law_group"] (sp__law_cut K) := by
  have nd := sc__law_cut.nd
  refine mkG F sc__law_cut bd__law_cut (lenL len__law_cut) fun f cdv A outer s H E hg hr => ⟨_, (pss_cons (ps_set (i := 2) nd rfl (Or.inl rfl) (pe_lst pa_nil))
    (pss_cons (ps_for PassesOwn.never rfl (pi_tk K rfl (pe_ix (ix_tk K rfl) (pv 0) pe_int (fun _ _ => rfl))) (pg_name (i := 3) nd rfl (Or.inl rfl)) (pss_cons (ps_set (i := 4) nd rfl (Or.inl rfl) (pe_callTy (cr_tupk K rfl) rfl bs.tuple boot_tuple (pa_cons (pe_lc (own := [("_law_leaf", 5)]) rfl nd (pi_tk K rfl (pv 3)) (blk1 rfl rfl rfl rfl rfl) (fun _ _ _ _ _ => pg_name (i := 5) nd rfl (by first | exact Or.inl rfl | exact Or.inr rfl)) (fun _ _ _ _ _ => pts_one (pt_cmpR (op_ink K rfl (hu65 hr)) (pv 5) (pv 1) (by with_unfolding_all rfl))) (fun _ _ _ _ _ => (pv 5))) pa_nil)))
    (pss_cons (ps_if (PW.pt (pw_and (pt_cmpR op_gt (pe_callB (cr_lenk K rfl) rfl bs.len boot_len (pa_cons (pv 4) pa_nil)) pe_int (nomark _)) (pw_and1 (pt_cmpR (op_nik K rfl (hu65 hr)) (pv 4) (pv 2) (by with_unfolding_all rfl))))) (pss_cons (ps_expr (pe_bm PySem.F.plainAttrs_list PySem.F.slot_list_append PySem.F.type_list_append mt_append (pv 2) (pa_cons (pv 4) pa_nil)))
    pss_nil) pss_nil)
    pss_nil)))
    (pss_cons (ps_ret (pe_sortK h__law_rank (hr.mono (by decide)) rfl bs.sorted rfl (pa_cons (pv 2) pa_nil)))
    pss_nil))), runL fun B ds es hR D hD => ?_⟩
  obtain ⟨n, ns, g, rfl, h10, hl, hll, rfl⟩ := hR
  refine q_asgL (ds := []) (el_lst ea_nil (by simp)) rfl fun p np => ?_
  refine q_forT (xs := ns) (enc := eLot) (ρn := fun ρ a => ρ.set 3 (.d (eLot a))) (ed_nests (ed_var rfl)) (fun a _ => nl_Lot a) (fun i ρ => ∃ s3 s4, ρ = [.d (eTree n ns), .d (eLot g), .l p (((ns.take i).foldl (cutStep g) []).map eLot), s3, s4, .un]) ⟨.un, .un, rfl⟩ (fun Z' ρ' a _ => gt_name (nl_Lot a)) (fun Z' zk' hZ i a ρ' ha hp => ?_) fun ρ' hp => ?_
  · obtain ⟨s3, s4, rfl⟩ := hp
    have hm := List.mem_of_getElem? ha
    have et : (ns.take (i + 1)).foldl (cutStep g) [] = cutStep g ((ns.take i).foldl (cutStep g) []) a := by
      rw [List.take_add_one, ha, List.foldl_append]; rfl
    have hlen : ((ns.take i).foldl (cutStep g) []).length ≤ 1000 := by
      have h1 := cut_len (g := g) (ns := ns.take i) (acc := [])
      have h2 : (ns.take i).length ≤ ns.length := by rw [List.length_take]; omega
      have h3 : ([] : List Lot).length = 0 := rfl
      omega
    have hacc : Lt10s ((ns.take i).foldl (cutStep g) []) := fun x hx => by
      rcases cut_mem.mp hx with h | ⟨_, nest, hn, rfl⟩
      · cases h
      · exact kept10 (h10 nest (List.mem_of_mem_take hn))
    generalize (ns.take i).foldl (cutStep g) [] = acc at et hlen hacc ⊢
    refine q_asg (d := eLot (keptL a g)) (ed_cb (ea_cons (ed_L (el_lcT (xs := a) (enc := eI) (f := eI) (keep := fun x => decide (x ∈ g)) (ed_var rfl) (by have := hll a hm; omega) (fun _ _ => rfl) (fun x _ => et_test (ed_inLot (ed_var rfl) (ed_var rfl))) (fun x _ _ => ed_var rfl) fun _ _ _ => rfl)) ea_nil) rc_tupL) (nl_Lot _) ?_
    refine q_if (b := decide (1 < (keptL a g).length) && decide (keptL a g ∉ acc)) (et_and (et_test (ed_gtN (b := 1) (ed_lenLot (ed_var rfl)) ed_int)) fun _ => et_test (ed_niLotsL (kept10 (h10 a hm)) hacc (ed_var rfl) (ed_varL rfl))) (fun h => ?_) (fun h => ?_)
    · refine q_app (p := p) rfl (ed_var rfl) (nl_Lot _) np.b np.s (by simp; omega) (by simp [putL]; rfl) (q_next (q_lf ⟨.d (eLot a), .d (eLot (keptL a g)), ?_⟩))
      rw [et, show cutStep g acc a = acc ++ [keptL a g] from if_pos h, List.map_append]
      rfl
    · refine q_next (q_next (q_lf ⟨.d (eLot a), .d (eLot (keptL a g)), ?_⟩))
      rw [et, show cutStep g acc a = acc from if_neg (by rw [h]; simp)]
      rfl
  · obtain ⟨s3, s4, rfl⟩ := hp
    rw [List.take_length]
    exact q_retL (ds := (cutL ns g).map eLot) (el_rank (ed_varL rfl)) hD
end
end Fk
/-! the walks, 13: where trees are the same, how far they are -/
namespace Fk
open PySem PySem.Spec PyProof.Rows L2
def sameAt (ts : List (Nat × List Lot)) (g : Lot) : Bool := ts.all fun t => decide (cutL t.2 g = cutL ((ts.head?.map (·.2)).getD []) g)
def goodStep (ts : List (Nat × List Lot)) (acc : List Lot) (g : Lot) : List Lot := if sameAt ts g = true then dstep acc g else acc
def goodL (ts : List (Nat × List Lot)) (gs : List Lot) : List Lot := gs.foldl (goodStep ts) []
theorem good_mem {ts : List (Nat × List Lot)} : ∀ {gs acc : List Lot} {x : Lot}, x ∈ gs.foldl (goodStep ts) acc ↔ x ∈ acc ∨ (x ∈ gs ∧ sameAt ts x = true)
  | [], acc, x => by simp
  | g :: gs, acc, x => by
    rw [List.foldl_cons, good_mem (gs := gs)]
    unfold goodStep dstep
    by_cases h : sameAt ts g = true
    · rw [if_pos h]
      by_cases hm : g ∈ acc
      · rw [if_pos hm]
        constructor
        · rintro (q | ⟨q, r⟩)
          · exact .inl q
          · exact .inr ⟨List.mem_cons_of_mem _ q, r⟩
        · rintro (q | ⟨q, r⟩)
          · exact .inl q
          · rcases List.mem_cons.mp q with rfl | q
            · exact .inl hm
            · exact .inr ⟨q, r⟩
      · rw [if_neg hm]
        constructor
        · rintro (q | ⟨q, r⟩)
          · rcases List.mem_append.mp q with q | q
            · exact .inl q
            · rw [List.mem_singleton.mp q]; exact .inr ⟨List.mem_cons_self, h⟩
          · exact .inr ⟨List.mem_cons_of_mem _ q, r⟩
        · rintro (q | ⟨q, r⟩)
          · exact .inl (List.mem_append_left _ q)
          · rcases List.mem_cons.mp q with rfl | q
            · exact .inl (List.mem_append_right _ (List.mem_singleton.mpr rfl))
            · exact .inr ⟨q, r⟩
    · rw [if_neg h]
      constructor
      · rintro (q | ⟨q, r⟩)
        · exact .inl q
        · exact .inr ⟨List.mem_cons_of_mem _ q, r⟩
      · rintro (q | ⟨q, r⟩)
        · exact .inl q
        · rcases List.mem_cons.mp q with rfl | q
          · exact absurd r h
          · exact .inr ⟨q, r⟩
theorem good_len {ts : List (Nat × List Lot)} : ∀ {gs acc : List Lot}, (gs.foldl (goodStep ts) acc).length ≤ acc.length + gs.length
  | [], _ => by simp
  | g :: gs, acc => by
    have h1 := good_len (ts := ts) (gs := gs) (acc := goodStep ts acc g)
    have h2 : (goodStep ts acc g).length ≤ acc.length + 1 := by
      unfold goodStep dstep
      split
      · split <;> simp
      · omega
    rw [List.foldl_cons, List.length_cons]; omega
def eT (t : Nat × List Lot) : PyData := eTree t.1 t.2
def eCut (ls : List Lot) : PyData := .list (ls.map eLot)
theorem eqvs_lotsL : ∀ a b : List Lot, PyData.eqvAll (a.map eLot) (b.map eLot) = decide (a = b)
  | [], [] => by simp [PyData.eqvAll]
  | [], _ :: _ => by simp [PyData.eqvAll]
  | _ :: _, [] => by simp [PyData.eqvAll]
  | x :: a, y :: b => by
    rw [List.map_cons, List.map_cons, PyData.eqvAll, eqvs_lotsL a b, eqv_lot]
    by_cases h : x = y <;> simp [h]
theorem eqv_cut (a b : List Lot) : PyData.eqv (eCut a) (eCut b) = decide (a = b) := by simp only [eCut, PyData.eqv]; exact eqvs_lotsL a b
section
variable {P : Program} {w : World} {K : PySem.W.Frag} {mg : Str → Option Value} {base : Heap} {B : Hp} {ρ ρ' : List Sl} {te tf ti tl : TE} {tt : TT} {S : Addr → Prop} {Z : Hp → Prop} {tz : TS} {D : Ends}
structure TsOk (ts : List (Nat × List Lot)) : Prop where
  ne : ts ≠ []
  few : ts.length ≤ 10
  l10 : ∀ t ∈ ts, Lt10s t.2
  len : ∀ t ∈ ts, t.2.length ≤ 1000
  lens : ∀ t ∈ ts, ∀ l ∈ t.2, l.length ≤ 1000
/-! _law_good -/
def sp__law_good (K : PySem.W.Frag) (P : Program) (w : World) : Sp := fun vs H Q _ => ∃ (ts : List (Nat × List Lot)) (gs : List Lot), DpAll K H vs [.list (ts.map eT), .list (gs.map eLot)] ∧ TsOk ts ∧ gs.length ≤ 2000 ∧
  ∀ p xs ep H', Ex H H' → H p = none → H' p = some (dHO P w p xs ep) → Paired (KE K H') ((goodL ts gs).map fun g => (eLot g, .bool true)) xs → Q (.ref p) H'
theorem len__law_good (vs : List V) (H : Hp) (Q : VK) (E : XK) (h : sp__law_good K P w vs H Q E) : vs.length = 2 := by
  obtain ⟨ts, gs, h, _⟩ := h
  rw [dps_len h]; rfl
theorem ek_good {ts : List (Nat × List Lot)} {gs : List Lot} {ta : TA} {E : XK} (h : EvA K B ta ρ [.list (ts.map eT), .list (gs.map eLot)]) (T : TsOk ts) (hg : gs.length ≤ 2000) : EvK K B P w (tCall (sp__law_good K P w) [] E ta) ρ ((goodL ts gs).map fun g => (eLot g, .bool true)) := fun σ H eb ok Q q => h σ H eb ok _ fun vs H1 e1 h1 => by
  rw [List.append_nil]
  exact ⟨ts, gs, h1, T, hg, fun p xs ep H' e2 hp h2 h3 => q p xs ep H' (e1.tr e2) (Evl.fresh_back e1 hp) h2 h3⟩
-- slots: _law_world_here:0 _law_groups:1 _law_good_here:2 _law_group:3c _law_kept:4c _law_own:5 _law_row:6  level 5
abbrev N__law_good : List Str := ["_law_world_here", "_law_groups", "_law_good_here", "_law_group", "_law_kept", "_law_own", "_law_row"]
theorem sc__law_good : FnScope N__law_good ["_law_world_here", "_law_groups"] (defScope s__law_good) := ⟨rfl, rfl, rfl, by decide +kernel, rfl, by decide +kernel, by decide +kernel⟩
theorem bd__law_good : BindsBy "_law_good" s__law_good ["_law_world_here", "_law_groups"] := fun _ _ _ _ _ _ us hl => match us, hl with | [_, _], _ => rfl
theorem ok__law_good (F : Here K mg "_law_good" s__law_good) (bs : Bs mg) (h__law_cut : Ok P w K mg base 4 "_law_cut" ["_law_own", "_law_group"] (sp__law_cut K)) : Ok P w K mg base 5 "_law_good" ["_law_world_here", "_law_groups"] (sp__law_good K P w) := by
  have nd := sc__law_good.nd
  refine mkG F sc__law_good bd__law_good ( len__law_good) fun f cdv A outer s H E hg hr => ⟨_, (pss_cons (ps_set (i := 2) nd rfl (Or.inl rfl) pe_dnewN)
    (pss_cons (ps_for PassesOwn.never rfl (pi_lk K rfl (pv 1)) (pg_name (i := 3) nd rfl (Or.inr rfl)) (pss_cons (ps_set (i := 4) nd rfl (Or.inr rfl) (pe_lc (own := [("_law_own", 5)]) rfl nd (pi_lk K rfl (pv 0)) (blk1 rfl rfl rfl rfl rfl) (fun _ _ _ _ _ => pg_name (i := 5) nd rfl (by first | exact Or.inl rfl | exact Or.inr rfl)) (fun _ _ _ _ _ => pts_nil) (fun _ _ _ _ _ => (pe_callN h__law_cut hg hr rfl (pa_cons (pv 5) (pa_cons (pv 3) pa_nil))))))
    (pss_cons (ps_if (pt_cmpR (op_eqk K rfl hr.units) (pe_lc (own := [("_law_row", 6)]) rfl nd (pi_lk K rfl (pv 4)) (blk1 rfl rfl rfl rfl rfl) (fun _ _ _ _ _ => pg_name (i := 6) nd rfl (by first | exact Or.inl rfl | exact Or.inr rfl)) (fun _ _ _ _ _ => pts_one (pt_cmpR (op_nek K rfl hr.units) (pv 6) (pe_ix (ix_lk K rfl) (pv 4) pe_int (fun _ _ => rfl)) (nomark _))) (fun _ _ _ _ _ => (pv 6))) (pe_lst pa_nil) (nomark _)) (pss_cons (ps_nput hr.units (pv 2) (pv 3) pe_bl rfl)
    pss_nil) pss_nil)
    pss_nil)))
    (pss_cons (ps_ret (pv 2))
    pss_nil))), ?_⟩
  rintro vs H Q E ⟨ts, gs, hd, T, hgl, q⟩
  refine (show ∀ t : TS, (∀ D : Ends, (∀ p xs ep H', Ex H H' → H p = none → H' p = some (dHO P w p xs ep) → Paired (KE K H') ((goodL ts gs).map fun g => (eLot g, .bool true)) xs → D.rt (.ref p) H') → TrR K H S0 Z0 t (startS N__law_good [.list (ts.map eT), .list (gs.map eLot)]) D) → t { nx := fun _ H' => Q .non H', rt := Q } (L2.start N__law_good vs) H from fun t main => main _ q _ _ ⟨Ex.rf, trivial, env_start hd⟩) _ fun D hD => ?_
  refine q_asgK (P := P) (w := w) ek_new fun p np => ?_
  refine q_forB (xs := gs) (enc := eLot) (i := 1) rfl (fun i ρ => ∃ s3 s4, ρ = [.d (.list (ts.map eT)), .d (.list (gs.map eLot)), .k p P w (((gs.take i).foldl (goodStep ts) []).map fun g => (eLot g, .bool true)), s3, s4, .un, .un]) ⟨.un, .un, rfl⟩ (fun i g ρ' hg hp => ?_) fun ρ' hp => ?_
  · obtain ⟨s3, s4, rfl⟩ := hp
    have et : (gs.take (i + 1)).foldl (goodStep ts) [] = goodStep ts ((gs.take i).foldl (goodStep ts) []) g := by
      rw [List.take_add_one, hg, List.foldl_append]; rfl
    have hlen : ((gs.take i).foldl (goodStep ts) []).length ≤ 2000 := by
      have h1 := good_len (ts := ts) (gs := gs.take i) (acc := [])
      have h2 : (gs.take i).length ≤ gs.length := by rw [List.length_take]; omega
      have h3 : ([] : List Lot).length = 0 := rfl
      omega
    generalize (gs.take i).foldl (goodStep ts) [] = acc at et hlen ⊢
    refine q_asgT (d := .list ((ts.map fun t => cutL t.2 g).map eCut)) (ed_is (ed_llL (xs := ts) (enc := eT) (f := fun t => (cutL t.2 g).map eLot) (ed_var rfl) (by have := T.few; omega) (fun a _ => nl_Tree _ _) (fun t ht => el_call (ea_cons (ed_var rfl) (ea_cons (ed_var rfl) ea_nil)) ⟨t.1, t.2, g, rfl, T.l10 t ht, T.len t ht, T.lens t ht, rfl⟩) fun _ _ => nls_Lot _) (by rw [List.map_map]; rfl)) ?_
    obtain ⟨t0, tr, hts⟩ : ∃ t0 tr, ts = t0 :: tr := by
      cases h : ts with
      | nil => exact absurd h T.ne
      | cons a b => exact ⟨a, b, rfl⟩
    have hhead : (ts.head?.map (·.2)).getD [] = t0.2 := by rw [hts]; rfl
    have hat : atI ((ts.map fun t => cutL t.2 g).map eCut) 0 = some (eCut (cutL t0.2 g)) := by
      rw [hts]
      unfold atI
      rw [show (0 : Int) = ((0 : Nat) : Int) from rfl, Evl.ixN_nat (by simp)]
      rfl
    have shc : ∀ t ∈ ts, SeqAt.shaped (eCut (cutL t.2 g)) = true := fun t ht => sh_lots (cut10 (T.l10 t ht))
    have sh0 : SeqAt.shaped (eCut (cutL t0.2 g)) = true := shc t0 (by rw [hts]; exact List.mem_cons_self)
    have shl : ∀ l : List (List Lot), (∀ c ∈ l, Lt10s c) → SeqAt.shaped (.list (l.map eCut)) = true := fun l hl => by
      refine shaped_of_small ?_ ?_
      · show smallIs (l.map eCut) = true
        rw [smallIs_iff]
        intro d hd
        obtain ⟨c, hc, rfl⟩ := List.mem_map.mp hd
        exact small_lots (hl c hc)
      · have : ∀ l : List (List Lot), PyData.depthAll (l.map eCut) ≤ 3 := by
          intro l
          induction l with
          | nil => simp [PyData.depthAll]
          | cons c l ih =>
            have := depth_lots c
            rw [List.map_cons, PyData.depthAll]
            simp only [eCut, PyData.depth]
            omega
        have := this l
        simp [PyData.depth]; omega
    refine q_if (b := sameAt ts g) (et_is (et_test (ed_op (ed_filt (xs := ts.map fun t => cutL t.2 g) (enc := eCut) (keep := fun c => decide (c ≠ cutL t0.2 g)) (by show 6 < 7; decide) (ed_varT rfl) (by have := T.few; simp; omega) (fun c hc => et_is (et_test (ed_op (ed_varT rfl) (ed_op (ed_varT rfl) ed_int (rd_ixL hat)) (rd_ne ?_ sh0))) ?_)) (ed_L (el_lst ea_nil (by simp))) (rd_eq (shl _ ?_) (by decide)))) ?_) (fun h => ?_) (fun h => ?_)
    · obtain ⟨t, ht, rfl⟩ := List.mem_map.mp hc
      exact shc t ht
    · rw [eqv_cut]; simp
    · intro c hc
      obtain ⟨t, ht, rfl⟩ := List.mem_map.mp (List.mem_filter.mp hc).1
      exact cut10 (T.l10 t ht)
    · unfold sameAt
      rw [hhead]
      cases hf : (ts.map fun t => cutL t.2 g).filter fun c => decide (c ≠ cutL t0.2 g) with
      | nil =>
        rw [List.filter_eq_nil_iff] at hf
        have : (ts.all fun t => decide (cutL t.2 g = cutL t0.2 g)) = true := by
          rw [List.all_eq_true]
          intro t ht
          have := hf (cutL t.2 g) (List.mem_map.mpr ⟨t, ht, rfl⟩)
          simpa using this
        rw [this]; rfl
      | cons c r =>
        have hc : c ∈ (ts.map fun t => cutL t.2 g).filter fun c => decide (c ≠ cutL t0.2 g) := by rw [hf]; exact List.mem_cons_self
        obtain ⟨h1, h2⟩ := List.mem_filter.mp hc
        obtain ⟨t, ht, rfl⟩ := List.mem_map.mp h1
        have : (ts.all fun t => decide (cutL t.2 g = cutL t0.2 g)) = false := by
          rw [List.all_eq_false]
          exact ⟨t, ht, by simpa using h2⟩
        rw [this]
        simp [PyData.eqv, PyData.eqvAll]
    · refine q_put (p := p) rfl (ed_var rfl) ed_bl (keyOk_lot _) rfl np.b np.s (by simp; omega) rfl (q_next (q_lf ⟨.d (eLot g), .un, ?_⟩))
      rw [putD_lot, et, show goodStep ts acc g = dstep acc g from if_pos h]
      simp [putL, noL]
      exact ⟨rfl, rfl⟩
    · refine q_next (q_next (q_lf ⟨.d (eLot g), .t (.list ((ts.map fun t => cutL t.2 g).map eCut)), ?_⟩))
      rw [et, show goodStep ts acc g = acc from if_neg (by rw [h]; simp)]
      rfl
  · obtain ⟨s3, s4, rfl⟩ := hp
    rw [List.take_length]
    exact q_retK (p := p) rfl fun xs ep H' e _ h1 h2 => hD p xs ep H' e np.b h1 h2
/-! _law_far -/
def R__law_far (ds : List PyData) (d : PyData) : Prop := ∃ (n : Nat) (ns ms : List Lot) (m : Nat), ds = [eTree n ns, eTree n ms] ∧ n ≤ 9 ∧ Lt10s ns ∧ Lt10s ms ∧ ns.length ≤ 1000 ∧ ms.length ≤ 1000 ∧ (∀ l ∈ ns, l.length ≤ 1000) ∧ (∀ l ∈ ms, l.length ≤ 1000) ∧ IsMax ((agreeL n ns ms).map List.length) m ∧ d = eI (n - m)
abbrev sp__law_far (K : PySem.W.Frag) : Sp := spD K R__law_far
theorem len__law_far : ∀ ds d, R__law_far ds d → ds.length = 2 := by rintro ds d ⟨n, ns, ms, m, rfl, _⟩; rfl
theorem good_agree {n : Nat} {ns ms : List Lot} {x : Lot} : x ∈ goodL [(n, ns), (n, ms)] (lotsL n 0) ↔ x ∈ agreeL n ns ms := by
  unfold goodL agreeL
  rw [good_mem, List.mem_filter]
  have : sameAt [(n, ns), (n, ms)] x = decide (cutL ns x = cutL ms x) := by
    by_cases h : cutL ns x = cutL ms x
    · simp [sameAt, h]
    · simp [sameAt, h, Ne.symm h]
  rw [this]; simp
-- slots: _law_one:0 _law_two:1 _law_good_here:2 _law_group:3  level 6
abbrev N__law_far : List Str := ["_law_one", "_law_two", "_law_good_here", "_law_group"]
theorem sc__law_far : FnScope N__law_far ["_law_one", "_law_two"] (defScope s__law_far) := ⟨rfl, rfl, rfl, by decide +kernel, rfl, by decide +kernel, by decide +kernel⟩
theorem bd__law_far : BindsBy "_law_far" s__law_far ["_law_one", "_law_two"] := fun _ _ _ _ _ _ us hl => match us, hl with | [_, _], _ => rfl
theorem ok__law_far (F : Here K mg "_law_far" s__law_far) (bs : Bs mg) (h__law_good : Ok P w K mg base 5 "_law_good" ["_law_world_here", "_law_groups"] (sp__law_good K P w)) (h__law_lots : Ok P w K mg base 4 "_law_lots" ["_law_size", "_law_least"] (sp__law_lots K)) : Ok P w K mg base 6 "_law_far" ["_law_one", "_law_two"] (sp__law_far K) := by
  have nd := sc__law_far.nd
  refine mkG F sc__law_far bd__law_far (lenD len__law_far) fun f cdv A outer s H E hg hr => ⟨_, (pss_cons (ps_set (i := 2) nd rfl (Or.inl rfl) (pe_callN h__law_good hg hr rfl (pa_cons (pe_lst (pa_cons (pv 0) (pa_cons (pv 1) pa_nil))) (pa_cons (pe_callN h__law_lots hg (hr.mono (by decide)) rfl (pa_cons (pe_ix (ix_tk K rfl) (pv 0) pe_int (fun _ _ => rfl)) (pa_cons pe_int pa_nil))) pa_nil))))
    (pss_cons (ps_ret (pe_op op_sub (pe_ix (ix_tk K rfl) (pv 0) pe_int (fun _ _ => rfl)) (pe_callB (cr_maxk K rfl rfl) rfl bs.max (by decide +kernel) (pa_cons (pe_lc (own := [("_law_group", 3)]) rfl nd (pi_keysN (pv 2)) (blk1 rfl rfl rfl rfl rfl) (fun _ _ _ _ _ => pg_name (i := 3) nd rfl (by first | exact Or.inl rfl | exact Or.inr rfl)) (fun _ _ _ _ _ => pts_nil) (fun _ _ _ _ _ => (pe_callB (cr_lenk K rfl) rfl bs.len boot_len (pa_cons (pv 3) pa_nil)))) pa_nil))))
    pss_nil)), runD fun B ds d hR D hD => ?_⟩
  obtain ⟨n, ns, ms, m, rfl, hn, h1, h2, h3, h4, h5, h6, hm, rfl⟩ := hR
  have hll : (lotsL n 0).length ≤ 512 := by
    have e : (lotsL n 0).length = ((lotsGo n).filter fun l => decide (0 ≤ l.length)).length := (isort_perm _ _).length_eq
    have h9 : (lotsGo n).length ≤ 2 ^ 9 := by rw [lotsGo_len]; exact Nat.pow_le_pow_right (by decide) hn
    have := List.length_filter_le (fun l => decide (0 ≤ l.length)) (lotsGo n)
    omega
  have hgl : (goodL [(n, ns), (n, ms)] (lotsL n 0)).length ≤ 512 := by
    have := good_len (ts := [(n, ns), (n, ms)]) (gs := lotsL n 0) (acc := [])
    have h3 : ([] : List Lot).length = 0 := rfl
    unfold goodL; omega
  refine q_asgK (P := P) (w := w) (ek_good (ts := [(n, ns), (n, ms)]) (gs := lotsL n 0) (ea_cons (ed_L (el_lst (ea_cons (ed_var rfl) (ea_cons (ed_var rfl) ea_nil)) (by simp))) (ea_cons (ed_L (el_call (ea_cons (ed_size (ed_var rfl)) (ea_cons (d := eI 0) ed_int ea_nil)) ⟨n, 0, rfl, hn, rfl⟩)) ea_nil)) ⟨by simp, by simp, fun t ht => ?_, fun t ht => ?_, fun t ht => ?_⟩ (by omega)) fun p np => ?_
  · rcases List.mem_cons.mp ht with rfl | ht
    · exact h1
    · rw [List.mem_singleton.mp ht]; exact h2
  · rcases List.mem_cons.mp ht with rfl | ht
    · exact h3
    · rw [List.mem_singleton.mp ht]; exact h4
  · rcases List.mem_cons.mp ht with rfl | ht
    · exact h5
    · rw [List.mem_singleton.mp ht]; exact h6
  have hmax : IsMax ((goodL [(n, ns), (n, ms)] (lotsL n 0)).map List.length) m := by
    refine ⟨?_, fun y hy => ?_⟩
    · obtain ⟨x, hx, e⟩ := List.mem_map.mp hm.1
      exact List.mem_map.mpr ⟨x, good_agree.mpr hx, e⟩
    · obtain ⟨x, hx, e⟩ := List.mem_map.mp hy
      exact hm.2 y (List.mem_map.mpr ⟨x, good_agree.mp hx, e⟩)
  have hmn : m ≤ n := by
    obtain ⟨x, hx, rfl⟩ := List.mem_map.mp hm.1
    exact (lotsGo_lt n x (lotsL_mem.mp (List.mem_filter.mp hx).1).1).2
  refine q_ret (d := eI (n - m)) (ed_is (ed_op (ed_size (ed_var rfl)) (ed_is (d := eI m) (ed_cb (ea_cons (ed_L (el_is (el_lcK (p := p) (f := fun e => match e.1 with | .tuple ds => .int (ds.length : Nat) | d => d) rfl (by simp; omega) (fun e he => ?_) fun e he => ?_) (show _ = (((goodL [(n, ns), (n, ms)] (lotsL n 0)).map List.length).map fun x : Nat => (x : Int)).map PyData.int by rw [List.map_map, List.map_map, List.map_map]; exact List.map_congr_left fun x _ => by simp [eLot]))) ea_nil) (rc_max (by intro z; have h := List.map_eq_nil_iff.mp z; rw [h] at hmax; cases hmax.1))) (by rw [max_nat hmax]; rfl)) rd_sub) (by rw [sub_nat hmn]; rfl)) fun v H' e _ h => hD v H' e h
  · obtain ⟨x, _, rfl⟩ := List.mem_map.mp he
    exact ed_is (ed_lenLot (l := x) (ed_var rfl)) (by simp [eLot, eI])
  · obtain ⟨x, _, rfl⟩ := List.mem_map.mp he
    simp [eLot, noL]
end
end Fk
/-! the walks, 14: the store, a draw -/
namespace Fk
open PySem PySem.Spec PyProof.Rows L2
theorem tPairs_c {k : V} {tv : TE} {r : List (TE × TE)} {σ : L2.St} {H : Hp} {Q : List (V × V) → Hp → Prop} (h : tv σ H fun y H2 => tPairs r σ H2 fun ps H3 => Q ((k, y) :: ps) H3) : tPairs ((tC k, tv) :: r) σ H Q := h
theorem tPairs_cc {k v : V} {r : List (TE × TE)} {σ : L2.St} {H : Hp} {Q : List (V × V) → Hp → Prop} (h : tPairs r σ H fun ps H3 => Q ((k, v) :: ps) H3) : tPairs ((tC k, tC v) :: r) σ H Q := h
theorem tPairs_n {σ : L2.St} {H : Hp} {Q : List (V × V) → Hp → Prop} (h : Q [] H) : tPairs [] σ H Q := h
def stK (lf ln : Addr) (b t : Int) : List (Key × V) := [(.inr "far", .ref lf), (.inr "near", .ref ln), (.inr "blend", .int b), (.inr "turn", .int t)]
/-- the store stands at st, its lists at lf and ln -/
def StZ (st lf ln : Addr) (H : Hp) : Prop := ∃ (far near : List Int) (b t : Int), H st = some (.dK (stK lf ln b t)) ∧ H lf = some (.lst (far.map V.int)) ∧ H ln = some (.lst (near.map V.int)) ∧ near ≠ [] ∧ 0 ≤ t ∧ lf ≠ ln
def StS (st lf ln : Addr) (a : Addr) : Prop := a = st ∨ a = lf ∨ a = ln
/-- all but the store is as it was -/
def Kp (st lf ln : Addr) (H H' : Hp) : Prop := ∀ a o, H a = some o → ¬ StS st lf ln a → H' a = some o
section
variable {st lf ln : Addr} {H H' H2 : Hp}
theorem Kp.of (e : Ex H H') : Kp st lf ln H H' := fun a o h _ => e a o h
theorem Kp.trans (a : Kp st lf ln H H') (b : Kp st lf ln H' H2) : Kp st lf ln H H2 := fun x o h n => b x o (a x o h n) n
theorem StZ.ex (z : StZ st lf ln H) (e : Ex H H') : StZ st lf ln H' := by
  obtain ⟨far, near, b, t, h1, h2, h3, h4, h5, h6⟩ := z
  exact ⟨far, near, b, t, e _ _ h1, e _ _ h2, e _ _ h3, h4, h5, h6⟩
theorem StZ.at (z : StZ st lf ln H) {a : Addr} (h : StS st lf ln a) : ∃ o, H a = some o ∧ isT o = false := by
  obtain ⟨far, near, b, t, h1, h2, h3, h4, h5, h6⟩ := z
  rcases h with rfl | rfl | rfl
  · exact ⟨_, h1, rfl⟩
  · exact ⟨_, h2, rfl⟩
  · exact ⟨_, h3, rfl⟩
theorem Kp.tx (z : StZ st lf ln H) (k : Kp st lf ln H H') : TX H H' := fun a xs h => by
  have na : ¬ StS st lf ln a := fun hs => by
    obtain ⟨o, h1, h2⟩ := z.at hs
    rcases h with h | ⟨ob, h⟩
    · rw [h1] at h; cases h; cases h2
    · rw [h1] at h; cases h; cases h2
  rcases h with h | ⟨ob, h⟩
  · exact .inl (k a _ h na)
  · exact .inr ⟨ob, k a _ h na⟩
theorem Kp.upd {p : Addr} {o : HO} (h : StS st lf ln p) : Kp st lf ln H (L2.upd H p o) := fun a u ha na => by
  rw [upd_ne (fun e : a = p => na (by rw [e]; exact h))]; exact ha
theorem putK_new {kvs : List (Key × V)} {k : Key} {v : V} (h : ∀ kv ∈ kvs, ¬ kv.1 = k) : putK kvs k v = kvs ++ [(k, v)] := by
  unfold putK
  rw [if_neg]
  intro z
  obtain ⟨kv, h1, h2⟩ := List.any_eq_true.mp z
  exact h kv h1 (of_decide_eq_true h2)
theorem k_fn : ¬ (Sum.inr ("far" : Str) : Key) = .inr ("near" : Str) := by decide
theorem k_fb : ¬ (Sum.inr ("far" : Str) : Key) = .inr ("blend" : Str) := by decide
theorem k_ft : ¬ (Sum.inr ("far" : Str) : Key) = .inr ("turn" : Str) := by decide
theorem k_nb : ¬ (Sum.inr ("near" : Str) : Key) = .inr ("blend" : Str) := by decide
theorem k_nt : ¬ (Sum.inr ("near" : Str) : Key) = .inr ("turn" : Str) := by decide
theorem k_bt : ¬ (Sum.inr ("blend" : Str) : Key) = .inr ("turn" : Str) := by decide
theorem val_far {b t : Int} : valV (stK lf ln b t) (.inr "far") = some (.ref lf) := rfl
theorem val_near {b t : Int} : valV (stK lf ln b t) (.inr "near") = some (.ref ln) := by
  unfold stK
  rw [valV_neg k_fn, valV_pos rfl]
theorem val_blend {b t : Int} : valV (stK lf ln b t) (.inr "blend") = some (.int b) := by
  unfold stK
  rw [valV_neg k_fb, valV_neg k_nb, valV_pos rfl]
theorem val_turn {b t : Int} : valV (stK lf ln b t) (.inr "turn") = some (.int t) := by
  unfold stK
  rw [valV_neg k_ft, valV_neg k_nt, valV_neg k_bt, valV_pos rfl]
theorem put_turn {b t u : Int} : putK (stK lf ln b t) (.inr "turn") (.int u) = stK lf ln b u := by
  unfold putK
  rw [valV_any, val_turn]
  rfl
end
section
variable {P : Program} {w : World} {K : PySem.W.Frag} {mg : Str → Option Value} {base : Heap} {B : Hp} {ρ ρ' : List Sl} {te tf ti tl : TE} {tt : TT} {S : Addr → Prop} {Z : Hp → Prop} {tz : TS} {D : Ends}
/-- a def that draws: data for data -/
def spZ (K : PySem.W.Frag) (R : List PyData → PyData → Prop) : Sp := fun vs H Q _ => ∃ (st lf ln : Addr) (rest : List V) (ds : List PyData), vs = .ref st :: rest ∧ StZ st lf ln H ∧ DpAll K H rest ds ∧ (∃ d, R ds d) ∧
  ∀ d, R ds d → ∀ v H', Kp st lf ln H H' → StZ st lf ln H' → Dp K H' v d → Q v H'
/-- .. a new list -/
def spZL (K : PySem.W.Frag) (R : List PyData → List PyData → Prop) : Sp := fun vs H Q _ => ∃ (st lf ln : Addr) (rest : List V) (ds : List PyData), vs = .ref st :: rest ∧ StZ st lf ln H ∧ DpAll K H rest ds ∧ (∃ es, R ds es) ∧
  ∀ es, R ds es → ∀ p ws H', Kp st lf ln H H' → StZ st lf ln H' → H p = none → H' p = some (.lst ws) → DpAll K H' ws es → Q (.ref p) H'
theorem lenZ {R : List PyData → PyData → Prop} {n : Nat} (h : ∀ ds d, R ds d → ds.length + 1 = n) (vs : List V) (H : Hp) (Q : VK) (E : XK) (hs : spZ K R vs H Q E) : vs.length = n := by
  obtain ⟨st, lf, ln, rest, ds, rfl, _, h1, ⟨d, hd⟩, _⟩ := hs
  rw [List.length_cons, dps_len h1]; exact h ds d hd
theorem lenZL {R : List PyData → List PyData → Prop} {n : Nat} (h : ∀ ds d, R ds d → ds.length + 1 = n) (vs : List V) (H : Hp) (Q : VK) (E : XK) (hs : spZL K R vs H Q E) : vs.length = n := by
  obtain ⟨st, lf, ln, rest, ds, rfl, _, h1, ⟨d, hd⟩, _⟩ := hs
  rw [List.length_cons, dps_len h1]; exact h ds d hd
/-! _law_store -/
def sp__law_store (K : PySem.W.Frag) : Sp := fun vs H Q _ => ∃ (a : Addr) (ns : List Int), vs = [.ref a] ∧ SqL K H a (ns.map V.int) ∧ ∀ st lf ln H', Ex H H' → H st = none → H lf = none → H ln = none → StZ st lf ln H' → Q (.ref st) H'
theorem len__law_store (vs : List V) (H : Hp) (Q : VK) (E : XK) (h : sp__law_store K vs H Q E) : vs.length = 1 := by
  obtain ⟨a, ns, rfl, _⟩ := h; rfl
theorem cut_map {α : Type} (f : α → PyData) (l : List α) (lo hi : Option Int) : ∃ m : List α, cutD (l.map f) lo hi = m.map f ∧ m.length ≤ l.length := by
  unfold cutD
  rw [List.length_map, ← List.map_drop, ← List.map_take]
  exact ⟨_, rfl, by rw [List.length_take, List.length_drop]; omega⟩
theorem cut63 (l : List Int) : ∃ m : List Int, cutD (l.map PyData.int) none (some 63) = m.map PyData.int ∧ m.length ≤ 63 := by
  unfold cutD
  rw [List.length_map, ← List.map_drop, ← List.map_take]
  refine ⟨_, rfl, ?_⟩
  rw [List.length_take]
  have h0 : HT.sIx l.length 0 none = 0 := rfl
  have h1 : HT.sIx l.length l.length (some 63) ≤ 63 := by
    unfold HT.sIx
    simp only
    split <;> omega
  omega
-- slots: _law_script:0 _law_cells:1 _law_near_here:2 _law_cell:3  level 1
abbrev N__law_store : List Str := ["_law_script", "_law_cells", "_law_near_here", "_law_cell"]
theorem sc__law_store : FnScope N__law_store ["_law_script"] (defScope s__law_store) := ⟨rfl, rfl, rfl, by decide +kernel, rfl, by decide +kernel, by decide +kernel⟩
theorem bd__law_store : BindsBy "_law_store" s__law_store ["_law_script"] := fun _ _ _ _ _ _ us hl => match us, hl with | [_], _ => rfl
theorem ok__law_store (F : Here K mg "_law_store" s__law_store) (bs : Bs mg) : Ok P w K mg base 1 "_law_store" ["_law_script"] (sp__law_store K) := by
  have nd := sc__law_store.nd
  refine mkG F sc__law_store bd__law_store ( len__law_store) fun f cdv A outer s H E hg hr => ⟨_, (pss_cons (ps_setLc (own := [("_law_cell", 3)]) (i := 1) rfl nd rfl rfl rfl (pi_lk K rfl (pe_slice (sl_lk K rfl) (pv 0) po_none (po_some pe_int))) (blk1 rfl rfl rfl rfl rfl) (fun _ _ _ _ _ => pg_name (i := 3) nd rfl (by first | exact Or.inl rfl | exact Or.inr rfl)) (fun _ _ _ _ _ => pts_nil) (fun _ _ _ _ _ => (pe_ifExp (pt_cmpR op_ge (pv 3) pe_int (nomark _)) (pe_op op_mul pe_int (pv 3)) (pe_op op_sub (pe_un un_neg pe_int) (pe_op op_mul pe_int (pv 3))))))
    (pss_cons (ps_set (i := 2) nd rfl (Or.inl rfl) (pe_op op_cat (pe_lc (own := [("_law_cell", 3)]) rfl nd (pi_lk K rfl (pv 1)) (blk1 rfl rfl rfl rfl rfl) (fun _ _ _ _ _ => pg_name (i := 3) nd rfl (by first | exact Or.inl rfl | exact Or.inr rfl)) (fun _ _ _ _ _ => pts_nil) (fun _ _ _ _ _ => (pe_op op_mod (pe_callTy cr_int1 rfl bs.int boot_int (pa_cons (pv 3) pa_nil)) pe_int))) (pe_lst (pa_cons (pe_op op_add (pe_callB (cr_lenk K rfl) rfl bs.len boot_len (pa_cons (pv 1) pa_nil)) pe_int) pa_nil))))
    (pss_cons (ps_ret (pe_disp (pps_cons pe_str (pe_lc (own := [("_law_cell", 3)]) rfl nd (pi_lk K rfl (pv 1)) (blk1 rfl rfl rfl rfl rfl) (fun _ _ _ _ _ => pg_name (i := 3) nd rfl (by first | exact Or.inl rfl | exact Or.inr rfl)) (fun _ _ _ _ _ => pts_one (pt_cmpR op_ge (pv 3) (pe_op op_pow pe_int pe_int) (nomark _))) (fun _ _ _ _ _ => (pv 3))) (pps_cons pe_str (pv 2) (pps_cons pe_str (pe_callB (cr_sumk K rfl rfl) rfl bs.sum (by decide +kernel) (pa_cons (pv 2) pa_nil)) (pps_cons pe_str pe_int pps_nil)))) rfl rfl (by decide) (by decide)))
    pss_nil))), ?_⟩
  rintro vs H Q E ⟨a, ns, rfl, hs, q⟩
  have hd : DpAll K H [.ref a] [.list (ns.map PyData.int)] := .cons (.lst hs (by
    clear hs q
    induction ns with
    | nil => exact .nil
    | cons n ns ih => exact .cons (.int n) ih)) .nil
  refine (show ∀ t : TS, (∀ D : Ends, (∀ st lf ln H', Ex H H' → H st = none → H lf = none → H ln = none → StZ st lf ln H' → D.rt (.ref st) H') → TrR K H S0 Z0 t (startS N__law_store [.list (ns.map PyData.int)]) D) → t { nx := fun _ H' => Q .non H', rt := Q } (L2.start N__law_store [.ref a]) H from fun t main => main _ q _ _ ⟨Ex.rf, trivial, env_start hd⟩) _ fun D hD => ?_
  obtain ⟨m, hm, hml⟩ := cut63 ns
  refine q_asgL (ds := (m.map fun c => if decide (0 ≤ c) = true then 2 * c else -1 - 2 * c).map PyData.int) (el_is (el_lcL' (xs := m) (enc := PyData.int) (f := fun c => .int (if decide (0 ≤ c) = true then 2 * c else -1 - 2 * c)) (ed_is (ed_L (el_slL (ed_var rfl) eo_none (eo_some ed_int))) (by rw [hm])) (by omega) (fun _ _ => rfl) (fun c _ => ed_if (b := decide (0 ≤ c)) (et_test (ed_op (ed_var rfl) ed_int rd_ge)) (fun h => ?_) (fun h => ?_)) fun _ _ => rfl) (by rw [List.map_map]; rfl)) (noLs_map fun _ _ => rfl) fun p np => ?_
  · rw [if_pos h]
    exact ed_op ed_int (ed_var rfl) (rd_mulL ⟨by decide, by decide⟩)
  · rw [if_neg (by rw [h]; simp)]
    exact ed_op (ed_un ed_int ru_neg) (ed_op ed_int (ed_var rfl) (rd_mulL ⟨by decide, by decide⟩)) rd_sub
  generalize hcs : (m.map fun c => if decide (0 ≤ c) = true then 2 * c else -1 - 2 * c) = cs
  have hcl : cs.length ≤ 63 := by rw [← hcs, List.length_map]; exact hml
  refine q_asgL (ds := ((cs.map fun c => c % 1000000000000000003) ++ [(cs.length : Int) + 41]).map PyData.int) (el_is (el_catLL (ds := (cs.map fun c => c % 1000000000000000003).map PyData.int) (es := [.int ((cs.length : Int) + 41)]) (el_is (el_lcL' (xs := cs) (enc := PyData.int) (f := fun c => .int (c % 1000000000000000003)) (ed_varL rfl) (by omega) (fun _ _ => rfl) (fun c _ => ed_op (ed_cb (ea_cons (ed_var rfl) ea_nil) rc_int1) ed_int (rd_mod (by decide))) fun _ _ => rfl) (by rw [List.map_map]; rfl)) (el_lst (ea_cons (ed_op (ed_is (ed_cb (ea_cons (ed_varL rfl) ea_nil) rc_lenL) (by rw [List.length_map])) ed_int rd_add) ea_nil) (by simp)) (by simp; omega)) (by rw [List.map_append]; rfl)) (noLs_map fun _ _ => rfl) fun r nr => ?_
  generalize hns : ((cs.map fun c => c % 1000000000000000003) ++ [(cs.length : Int) + 41]) = near
  have hne : near ≠ [] := by rw [← hns]; simp
  have hmap : ∀ l : List Int, l.map V.int = l.map V.int := fun _ => rfl
  refine fun σ H1 a1 st hst => ?_
  have e0 : Ex H1 (L2.upd H1 st (.dK [])) := Evl.Ex.new hst
  refine tPairs_c ?_
  refine el_lcL (K := K) (B := H) (xs := cs) (enc := PyData.int) (f := PyData.int) (keep := fun c => decide ((10 : Int) ^ (18 : Int).toNat ≤ c)) (ed_varL rfl) (by omega) (fun _ _ => rfl) (fun c _ => et_test (ed_op (ed_var rfl) (ed_op ed_int ed_int (rd_pow ⟨by decide, by decide, by decide⟩)) rd_ge)) (fun c _ _ => ed_var rfl) (fun _ _ _ => rfl) σ _ (a1.eb.tr e0) (a1.ok.ex e0) _ fun lf vs H2 e2 hlf h2 d2 => ?_
  have ok2 := (a1.ok.ex e0).ex e2
  obtain ⟨q1, ws, k1, k2, _⟩ := ok2.l (i := 2) (p := r) (ds := near.map PyData.int) rfl
  refine tPairs_c ⟨.ref r, q1, tPairs_c ?_⟩
  refine ed_cb (K := K) (B := H) (ea_cons (ed_varL rfl) ea_nil) (rc_sum (ns := near)) σ H2 ((a1.eb.tr e0).tr e2) ok2 _ fun v H3 e3 hv => ?_
  obtain rfl := dp_int hv
  have hst3 : H3 st = some (.dK []) := e3 _ _ (e2 _ _ upd_same)
  refine tPairs_cc (tPairs_n ?_)
  refine ⟨hst3, stK lf r near.sum 0, rfl, by simp [stK], ?_⟩
  have hlfs : lf ≠ st := fun z => by rw [z, upd_same] at hlf; cases hlf
  have hmk : mergeK [] (stK lf r near.sum 0) = stK lf r near.sum 0 := by
    have p1 : putK ([] : List (Key × V)) (.inr "far") (.ref lf) = [(.inr "far", .ref lf)] := rfl
    have p2 : putK ([(.inr "far", .ref lf)] : List (Key × V)) (.inr "near") (.ref r) = [(.inr "far", .ref lf), (.inr "near", .ref r)] := putK_new fun kv hkv => by
      rw [List.mem_singleton.mp hkv]; exact k_fn
    have p3 : putK ([(.inr "far", .ref lf), (.inr "near", .ref r)] : List (Key × V)) (.inr "blend") (.int near.sum) = [(.inr "far", .ref lf), (.inr "near", .ref r), (.inr "blend", .int near.sum)] := putK_new fun kv hkv => by
      rcases List.mem_cons.mp hkv with e | hkv
      · rw [e]; exact k_fb
      · rw [List.mem_singleton.mp hkv]; exact k_nb
    have p4 : putK ([(.inr "far", .ref lf), (.inr "near", .ref r), (.inr "blend", .int near.sum)] : List (Key × V)) (.inr "turn") (.int 0) = stK lf r near.sum 0 := putK_new fun kv hkv => by
      rcases List.mem_cons.mp hkv with e | hkv
      · rw [e]; exact k_ft
      · rcases List.mem_cons.mp hkv with e | hkv
        · rw [e]; exact k_nt
        · rw [List.mem_singleton.mp hkv]; exact k_bt
    unfold mergeK
    unfold stK
    rw [List.foldl_cons, List.foldl_cons, List.foldl_cons, List.foldl_cons, List.foldl_nil]
    show putK (putK (putK (putK ([] : List (Key × V)) (.inr "far") (.ref lf)) (.inr "near") (.ref r)) (.inr "blend") (.int near.sum)) (.inr "turn") (.int 0) = _
    rw [p1, p2, p3, p4]
    rfl
  rw [hmk]
  have k1' : H3 r = some (.lst ws) := e3 _ _ k1
  have hrs : r ≠ st := fun z => by rw [z, hst3] at k1'; cases k1'
  have hlr : lf ≠ r := fun z => by
    obtain ⟨_, ws', k3, _⟩ := a1.ok.l (i := 2) (p := r) (ds := near.map PyData.int) rfl
    rw [z, upd_ne hrs, k3] at hlf; cases hlf
  have hvs : vs = ((cs.filter fun c => decide ((10 : Int) ^ (18 : Int).toNat ≤ c))).map V.int := dps_ints d2
  have hws : ws = near.map V.int := dps_ints k2
  have exf : Ex H1 (L2.upd H3 st (.dK (stK lf r near.sum 0))) := fun b o hb => by
    have : b ≠ st := fun z => by rw [z, hst] at hb; cases hb
    rw [upd_ne this]
    exact e3 _ _ (e2 _ _ (e0 _ _ hb))
  refine hD st lf r _ (a1.eb.tr exf) (Evl.fresh_back a1.eb hst) (Evl.fresh_back (a1.eb.tr e0) hlf) nr.b ⟨cs.filter fun c => decide ((10 : Int) ^ (18 : Int).toNat ≤ c), near, near.sum, 0, upd_same, ?_, ?_, hne, by omega, hlr⟩
  · rw [upd_ne hlfs]
    rw [← hvs]; exact e3 _ _ h2
  · rw [upd_ne hrs, ← hws]; exact k1'
end
end Fk
/-! the walks, 15: a draw -/
namespace Fk
open PySem PySem.Spec PyProof.Rows L2
theorem sh_ints : ∀ l : List Int, SeqAt.shaped (.list (l.map PyData.int)) = true := fun l => by
  have h1 : ∀ l : List Int, PyData.canLayAll0 (l.map PyData.int) = true := by
    intro l
    induction l with
    | nil => simp [PyData.canLayAll0]
    | cons x l ih => simp [PyData.canLayAll0, PyData.canLay0]; simpa using ih
  have h2 : ∀ l : List Int, PyData.depthAll (l.map PyData.int) = 0 := by
    intro l
    induction l with
    | nil => rfl
    | cons x l ih => simp [PyData.depthAll, PyData.depth]; simpa using ih
  show (PyData.canLay0 (.list (l.map PyData.int)) && decide ((PyData.list (l.map PyData.int)).depth ≤ 64)) = true
  simp [PyData.canLay0, h1, PyData.depth, h2]
theorem ixN_0 {n : Nat} (h : 0 < n) : ixN n 0 = some 0 := Evl.ixN_nat h
theorem atI_0 {α : Type} {x : α} {l : List α} : atI (x :: l) 0 = some x := by
  unfold atI
  rw [ixN_0 (by simp)]
  rfl
theorem mod_nat {a n : Nat} {c : Int} (h : 0 < n) : ∃ r : Nat, r < n ∧ c % (n : Int) = (r : Int) := by
  have h1 := Int.emod_nonneg c (b := (n : Int)) (by omega)
  have h2 := Int.emod_lt_of_pos c (b := (n : Int)) (by omega)
  exact ⟨(c % (n : Int)).toNat, by omega, by omega⟩
section
variable {P : Program} {w : World} {K : PySem.W.Frag} {mg : Str → Option Value} {base : Heap}
def R__law_draw (ds : List PyData) (d : PyData) : Prop := ∃ n r : Nat, ds = [eI n] ∧ 0 < n ∧ n < 1000000 ∧ r < n ∧ d = eI r
abbrev sp__law_draw (K : PySem.W.Frag) : Sp := spZ K R__law_draw
theorem len__law_draw : ∀ ds d, R__law_draw ds d → ds.length + 1 = 2 := by rintro ds d ⟨n, r, rfl, _⟩; rfl
-- slots: _law_store_here:0 _law_size:1 _law_far_here:2 _law_turn:3 _law_cell:4 _law_blend:5  level 1
abbrev N__law_draw : List Str := ["_law_store_here", "_law_size", "_law_far_here", "_law_turn", "_law_cell", "_law_blend"]
theorem sc__law_draw : FnScope N__law_draw ["_law_store_here", "_law_size"] (defScope s__law_draw) := ⟨rfl, rfl, rfl, by decide +kernel, rfl, by decide +kernel, by decide +kernel⟩
theorem bd__law_draw : BindsBy "_law_draw" s__law_draw ["_law_store_here", "_law_size"] := fun _ _ _ _ _ _ us hl => match us, hl with | [_, _], _ => rfl
theorem ok__law_draw (F : Here K mg "_law_draw" s__law_draw) (bs : Bs mg) : Ok P w K mg base 1 "_law_draw" ["_law_store_here", "_law_size"] (sp__law_draw K) := by
  have nd := sc__law_draw.nd
  refine mkG F sc__law_draw bd__law_draw (lenZ len__law_draw) fun f cdv A outer s H E hg hr => ⟨_, (pss_cons (ps_set (i := 2) nd rfl (Or.inl rfl) (pe_dget (hu_of hr) (pv 0) pe_str (fun _ _ => rfl)))
    (pss_cons (ps_if (pt_cmpR (op_nek K rfl hr.units) (pv 2) (pe_lst pa_nil) (nomark _)) (pss_cons (ps_set (i := 4) nd rfl (Or.inl rfl) (pe_ix (ix_lk K rfl) (pv 2) pe_int (fun _ _ => rfl)))
    (pss_cons (ps_asg (pe_op op_fdiv (pv 4) (pv 1)) (pg_sub (pv 2) pe_int set_list))
    (pss_cons (ps_if (pt_cmpR op_lt (pv 4) (pv 1) (nomark _)) (pss_cons (ps_expr (pe_bm PySem.F.plainAttrs_list PySem.F.slot_list_pop PySem.F.type_list_pop mt_popAt (pv 2) (pa_cons pe_int pa_nil)))
    pss_nil) pss_nil)
    (pss_cons (ps_ret (pe_op op_mod (pe_callTy cr_int1 rfl bs.int boot_int (pa_cons (pv 4) pa_nil)) (pv 1)))
    pss_nil)))) pss_nil)
    (pss_cons (ps_set (i := 3) nd rfl (Or.inl rfl) (pe_op op_add (pe_dget (hu_of hr) (pv 0) pe_str (fun _ _ => rfl)) pe_int))
    (pss_cons (ps_dput (hu_of hr) (pv 0) pe_str (pv 3) rfl)
    (pss_cons (ps_set (i := 4) nd rfl (Or.inl rfl) (pe_ix (ix_lk K rfl) (pe_dget (hu_of hr) (pv 0) pe_str (fun _ _ => rfl)) (pe_op op_mod (pe_callTy cr_int1 rfl bs.int boot_int (pa_cons (pv 3) pa_nil)) (pe_callB (cr_lenk K rfl) rfl bs.len boot_len (pa_cons (pe_dget (hu_of hr) (pv 0) pe_str (fun _ _ => rfl)) pa_nil))) (fun _ _ => rfl)))
    (pss_cons (ps_set (i := 5) nd rfl (Or.inl rfl) (pe_op op_mod (pe_callTy cr_int1 rfl bs.int boot_int (pa_cons (pe_op op_add (pe_op op_add (pe_op op_mul (pv 4) pe_int) (pe_op op_mul (pe_dget (hu_of hr) (pv 0) pe_str (fun _ _ => rfl)) pe_int)) (pe_op op_mul (pv 3) pe_int)) pa_nil)) pe_int))
    (pss_cons (ps_set (i := 5) nd rfl (Or.inl rfl) (pe_op op_mod (pe_callTy cr_int1 rfl bs.int boot_int (pa_cons (pe_op op_add (pe_op op_add (pe_op op_mul (pv 5) (pv 5)) (pe_op op_mul (pv 3) pe_int)) (pv 4)) pa_nil)) pe_int))
    (pss_cons (ps_set (i := 5) nd rfl (Or.inl rfl) (pe_op op_mod (pe_callTy cr_int1 rfl bs.int boot_int (pa_cons (pe_op op_add (pe_op op_mul (pv 5) (pv 5)) (pv 5)) pa_nil)) pe_int))
    (pss_cons (ps_ret (pe_op op_mod (pe_callTy cr_int1 rfl bs.int boot_int (pa_cons (pe_op op_fdiv (pv 5) pe_int) pa_nil)) (pv 1)))
    pss_nil))))))))), ?_⟩
  rintro vs H Q E ⟨st, lf, ln, rest, ds, rfl, hz, hd, ⟨d0, n, r0, rfl, hn0, hn1, _, _⟩, q⟩
  obtain ⟨v, rfl, hv⟩ := one_dp hd
  obtain rfl := dp_int hv
  have q : ∀ r : Nat, r < n → ∀ H', Kp st lf ln H H' → StZ st lf ln H' → Q (.int (r : Int)) H' := fun r hr H' h1 h2 => q (eI r) ⟨n, r, rfl, hn0, hn1, hr, rfl⟩ _ H' h1 h2 (.int _)
  obtain ⟨far, near, b, t, h1, h2, h3, hne, ht, hlr⟩ := id hz
  have slf : st ≠ lf := fun z => by rw [z, h2] at h1; cases h1
  have sln : st ≠ ln := fun z => by rw [z, h3] at h1; cases h1
  refine ⟨_, rfl, st, .ref lf, rfl, .inl ⟨_, .inr "far", .inl h1, rfl, val_far.symm⟩, ?_⟩
  refine ⟨_, rfl, by decide, fun p hp => ?_⟩
  have ep : Ex H (L2.upd H p (.lst [])) := Evl.Ex.new hp
  have hz1 := hz.ex ep
  have g1 := ep _ _ h1
  have g2 := ep _ _ h2
  have g3 := ep _ _ h3
  generalize hHp : L2.upd H p (.lst []) = H1 at ep hz1 g1 g2 g3 ⊢
  have gp : H1 p = some (.lst []) := by rw [← hHp]; exact upd_same
  have dfar : Dp K H1 (.ref lf) (.list (far.map PyData.int)) := .lst (SqL.of g2) (dps_of_ints far)
  refine ⟨.list (far.map PyData.int), .list [], dfar, .lst (SqL.of gp) .nil, sh_ints far, by decide, _, rfl, ?_⟩
  cases far with
  | cons c cs =>
    have e1 : (!PyData.eqv (.list ((c :: cs).map PyData.int)) (.list [])) = true := by simp [PyData.eqv, PyData.eqvAll]
    rw [e1, if_pos rfl]
    refine ⟨_, rfl, lf, _, 0, .int c, rfl, rfl, SqL.of g2, atI_0, ?_⟩
    refine ⟨_, rfl, _, rfl, c, (n : Int), rfl, rfl, ⟨by omega, by omega⟩, ?_⟩
    refine ⟨_, rfl, lf, _, 0, 0, rfl, rfl, g2, ixN_0 (by simp), ?_⟩
    have k2 : Kp st lf ln H (L2.upd H1 lf (.lst (((c :: cs).map V.int).set 0 (.int (c / (n : Int)))))) := (Kp.of ep).trans (Kp.upd (.inr (.inl rfl)))
    have z2 : StZ st lf ln (L2.upd H1 lf (.lst (((c :: cs).map V.int).set 0 (.int (c / (n : Int)))))) := ⟨(c / (n : Int)) :: cs, near, b, t, by rw [upd_ne slf]; exact g1, by rw [upd_same]; rfl, by rw [upd_ne hlr.symm]; exact g3, hne, ht, hlr⟩
    have w2 : L2.upd H1 lf (.lst (((c :: cs).map V.int).set 0 (.int (c / (n : Int))))) lf = some (.lst (V.int (c / (n : Int)) :: cs.map V.int)) := by rw [upd_same]; rfl
    have w1 : L2.upd H1 lf (.lst (((c :: cs).map V.int).set 0 (.int (c / (n : Int))))) st = some (.dK (stK lf ln b t)) := by rw [upd_ne slf]; exact g1
    have w3 : L2.upd H1 lf (.lst (((c :: cs).map V.int).set 0 (.int (c / (n : Int))))) ln = some (.lst (near.map V.int)) := by rw [upd_ne hlr.symm]; exact g3
    generalize L2.upd H1 lf (.lst (((c :: cs).map V.int).set 0 (.int (c / (n : Int))))) = H2 at k2 z2 w1 w2 w3 ⊢
    obtain ⟨r, hr, er⟩ := mod_nat (a := 0) (c := c) hn0
    have ret : ∀ H', Kp st lf ln H H' → StZ st lf ln H' → Q (.int (c % (n : Int))) H' := fun H' h1 h2 => by rw [er]; exact q r hr H' h1 h2
    refine ⟨_, rfl, _, rfl, c, (n : Int), rfl, rfl, _, rfl, ?_⟩
    cases hlt : decide (c < (n : Int)) with
    | true =>
      rw [if_pos rfl]
      refine ⟨_, rfl, Or.inl ⟨rfl, _, SqL.of w2⟩, lf, _, 0, 0, _, rfl, rfl, w2, by omega, by omega, ?_, rfl, ?_⟩
      · simp [seqIndex?]
      · refine ⟨_, rfl, .inl ⟨c, rfl, ?_⟩⟩
        refine ⟨_, rfl, c, (n : Int), rfl, rfl, by omega, ?_⟩
        exact ret _ (k2.trans (Kp.upd (.inr (.inl rfl)))) ⟨cs, near, b, t, by rw [upd_ne slf]; exact w1, by rw [upd_same]; rfl, by rw [upd_ne hlr.symm]; exact w3, hne, ht, hlr⟩
    | false =>
      rw [if_neg Bool.false_ne_true]
      refine ⟨_, rfl, .inl ⟨c, rfl, ?_⟩⟩
      exact ⟨_, rfl, c, (n : Int), rfl, rfl, by omega, ret _ k2 z2⟩
  | nil =>
    have e1 : (!PyData.eqv (.list (([] : List Int).map PyData.int)) (.list [])) = false := by simp [PyData.eqv, PyData.eqvAll]
    rw [e1, if_neg Bool.false_ne_true]
    refine ⟨_, rfl, st, .int t, rfl, .inl ⟨_, .inr "turn", .inl g1, rfl, val_turn.symm⟩, t, 1, rfl, rfl, ?_⟩
    refine ⟨_, rfl, _, rfl, st, _, rfl, DPut.k (k := .inr "turn") (v := .int (t + 1)) g1 (by show 4 < sizeLine; decide), ?_⟩
    rw [put_turn]
    have k2 : Kp st lf ln H (L2.upd H1 st (.dK (stK lf ln b (t + 1)))) := (Kp.of ep).trans (Kp.upd (.inl rfl))
    have w1 : L2.upd H1 st (.dK (stK lf ln b (t + 1))) st = some (.dK (stK lf ln b (t + 1))) := upd_same
    have w3 : L2.upd H1 st (.dK (stK lf ln b (t + 1))) ln = some (.lst (near.map V.int)) := by rw [upd_ne sln.symm]; exact g3
    have z2 : StZ st lf ln (L2.upd H1 st (.dK (stK lf ln b (t + 1)))) := ⟨[], near, b, t + 1, w1, by rw [upd_ne slf.symm]; exact g2, w3, hne, by omega, hlr⟩
    generalize L2.upd H1 st (.dK (stK lf ln b (t + 1))) = H2 at k2 z2 w1 w3 ⊢
    have hl : 0 < near.length := List.length_pos_iff.mpr hne
    obtain ⟨j, hj, ej⟩ := mod_nat (a := 0) (c := t + 1) hl
    obtain ⟨c, hc⟩ : ∃ c, near[j]? = some c := ⟨_, List.getElem?_eq_getElem hj⟩
    have hat : atI (near.map V.int) ((j : Nat) : Int) = some (.int c) := by
      unfold atI
      rw [List.length_map, Evl.ixN_nat hj]
      show (near.map V.int)[j]? = _
      rw [List.getElem?_map, hc]; rfl
    refine ⟨_, rfl, st, .ref ln, rfl, .inl ⟨_, .inr "near", .inl w1, rfl, val_near.symm⟩, ?_⟩
    refine ⟨_, rfl, .inl ⟨t + 1, rfl, ?_⟩⟩
    refine ⟨_, rfl, st, .ref ln, rfl, .inl ⟨_, .inr "near", .inl w1, rfl, val_near.symm⟩, ln, _, rfl, .inl (SqL.of w3), ?_⟩
    refine ⟨t + 1, _, rfl, rfl, by rw [List.length_map]; omega, ?_⟩
    have hat' : atI (near.map V.int) ((t + 1) % ((near.map V.int).length : Int)) = some (.int c) := by rw [List.length_map, ej]; exact hat
    refine ⟨ln, _, _, .int c, rfl, rfl, SqL.of w3, hat', ?_⟩
    refine ⟨_, rfl, c, 486187739, rfl, rfl, .inr ⟨by decide, by decide⟩, ?_⟩
    refine ⟨_, rfl, st, .int b, rfl, .inl ⟨_, .inr "blend", .inl w1, rfl, val_blend.symm⟩, b, 16777619, rfl, rfl, .inr ⟨by decide, by decide⟩, ?_⟩
    refine ⟨_, _, rfl, rfl, ?_⟩
    refine ⟨_, rfl, t + 1, 1442695040888963407, rfl, rfl, .inr ⟨by decide, by decide⟩, _, _, rfl, rfl, .inl ⟨_, rfl, ?_⟩⟩
    refine ⟨_, 1000000000000000009, rfl, rfl, (show (0 : Int) < 1000000000000000009 by decide), ?_⟩
    have hx1 := Int.emod_nonneg (c * 486187739 + b * 16777619 + (t + 1) * 1442695040888963407) (b := 1000000000000000009) (by decide)
    have hx2 := Int.emod_lt_of_pos (c * 486187739 + b * 16777619 + (t + 1) * 1442695040888963407) (b := 1000000000000000009) (by decide)
    dsimp only at hx1 hx2 ⊢
    generalize (c * 486187739 + b * 16777619 + (t + 1) * 1442695040888963407) % 1000000000000000009 = x at hx1 hx2 ⊢
    refine ⟨_, rfl, _, rfl, x, x, rfl, rfl, .inl ⟨by omega, by omega⟩, ?_⟩
    refine ⟨_, rfl, t + 1, 22695477, rfl, rfl, .inr ⟨by decide, by decide⟩, _, _, rfl, rfl, ?_⟩
    refine ⟨_, rfl, _, c, rfl, rfl, .inl ⟨_, rfl, ?_⟩⟩
    refine ⟨_, 1000000000000000003, rfl, rfl, (show (0 : Int) < 1000000000000000003 by decide), ?_⟩
    have hy1 := Int.emod_nonneg (x * x + (t + 1) * 22695477 + c) (b := 1000000000000000003) (by decide)
    have hy2 := Int.emod_lt_of_pos (x * x + (t + 1) * 22695477 + c) (b := 1000000000000000003) (by decide)
    dsimp only at hy1 hy2 ⊢
    generalize (x * x + (t + 1) * 22695477 + c) % 1000000000000000003 = y at hy1 hy2 ⊢
    refine ⟨_, rfl, _, rfl, y, y, rfl, rfl, .inl ⟨by omega, by omega⟩, ?_⟩
    refine ⟨_, rfl, _, _, rfl, rfl, .inl ⟨_, rfl, ?_⟩⟩
    refine ⟨_, 1000000000000000009, rfl, rfl, (show (0 : Int) < 1000000000000000009 by decide), ?_⟩
    dsimp only
    generalize (y * y + y) % 1000000000000000009 = z
    refine ⟨_, rfl, z, 4096, rfl, rfl, ⟨by decide, by decide⟩, .inl ⟨_, rfl, ?_⟩⟩
    obtain ⟨r, hr, er⟩ := mod_nat (a := 0) (c := z / 4096) hn0
    refine ⟨_, rfl, z / 4096, (n : Int), rfl, rfl, by omega, ?_⟩
    show Q (.int (z / 4096 % (n : Int))) H2
    rw [er]
    exact q r hr _ k2 z2
end
end Fk
/-! what is evaluated with an effect on the store or on a local list -/
namespace Fk
open PySem PySem.Spec PyProof.Rows L2
/-- Z tells what the store is, and nothing else of it -/
structure ZS (st lf ln : Addr) (S : Addr → Prop) (Z : Hp → Prop) (B : Hp) : Prop where
  sub : ∀ a, StS st lf ln a → S a
  get : ∀ {H : Hp}, Z H → StZ st lf ln H
  put : ∀ {H H' : Hp}, Z H → Kp st lf ln H H' → StZ st lf ln H' → Z H'
  b : ∀ a, StS st lf ln a → B a = none
def noT : List Sl → Bool
  | [] => true
  | .t d :: ρ => noL d && noT ρ
  | .un :: ρ => noT ρ
  | .d _ :: ρ => noT ρ
  | .l _ _ :: ρ => noT ρ
  | .o _ _ :: ρ => noT ρ
  | .r _ :: ρ => noT ρ
  | .k _ _ _ _ :: ρ => noT ρ
structure Fine (S : Addr → Prop) (ρ : List Sl) : Prop where
  a : ∀ q ∈ adrs ρ, ¬ S q
  t : noT ρ = true
section
variable {K : PySem.W.Frag} {B H H' : Hp} {S : Addr → Prop} {Z : Hp → Prop} {ρ ρ' : List Sl} {σ : L2.St} {st lf ln : Addr}
theorem EnvOk.kp (tx : TX H H') : ∀ {σ : L2.St} {ρ : List Sl}, EnvOk K B H σ ρ → (∀ q ∈ adrs ρ, ∀ o, H q = some o → H' q = some o) → noT ρ = true → EnvOk K B H' σ ρ
  | [], [], _, _, _ => trivial
  | x :: σ, s :: ρ, h, ha, ht => by
    have h1 := h.1
    have rest : (∀ q ∈ adrs ρ, ∀ o, H q = some o → H' q = some o) → noT ρ = true → EnvOk K B H' σ ρ := fun a b => EnvOk.kp tx h.2 a b
    cases s with
    | un => exact ⟨trivial, rest ha ht⟩
    | d d =>
      obtain ⟨v, e1, h1⟩ := h1
      exact ⟨⟨v, e1, h1.imp id fun z => ⟨z.1, dp_tx tx _ _ z.1 z.2⟩⟩, rest ha ht⟩
    | l p ds =>
      obtain ⟨e1, vs, h2, h3, h4⟩ := h1
      exact ⟨⟨e1, vs, ha p List.mem_cons_self _ h2, dps_tx tx _ _ h4 h3, h4⟩, rest (fun q hq => ha q (List.mem_cons_of_mem _ hq)) ht⟩
    | o p u => exact ⟨⟨h1.1, ha p List.mem_cons_self _ h1.2⟩, rest (fun q hq => ha q (List.mem_cons_of_mem _ hq)) ht⟩
    | r p => exact ⟨h1, rest ha ht⟩
    | t d =>
      obtain ⟨v, e1, h1⟩ := h1
      have ht : noL d = true ∧ noT ρ = true := by simpa [noT] using ht
      exact ⟨⟨v, e1, dp_tx tx _ _ ht.1 h1⟩, rest ha ht.2⟩
    | k p P w es =>
      obtain ⟨e1, xs, ep, h2, h3⟩ := h1
      exact ⟨⟨e1, xs, ep, ha p List.mem_cons_self _ h2, Paired.mapP h3 fun _ _ z => z.tx tx⟩, rest (fun q hq => ha q (List.mem_cons_of_mem _ hq)) ht⟩
  | [], _ :: _, h, _, _ => h.elim
  | _ :: _, [], h, _, _ => h.elim
theorem At.kp (zs : ZS st lf ln S Z B) (a : At K B S Z ρ σ H) (f : Fine S ρ) (k : Kp st lf ln H H') (z : StZ st lf ln H') : At K B S Z ρ σ H' :=
  ⟨fun b o h => k b o (a.eb b o h) (fun hs => by rw [zs.b b hs] at h; cases h), zs.put a.z k z, EnvOk.kp (k.tx (zs.get a.z)) a.ok (fun q hq o h => k q o h fun hs => f.a q hq (zs.sub q hs)) f.t⟩
/-- a value, behind which the slots may be otherwise -/
def EvX (K : PySem.W.Frag) (B : Hp) (S : Addr → Prop) (Z : Hp → Prop) (te : TE) (ρ : List Sl) (Po : PyData → List Sl → Prop) : Prop := ∀ σ H, At K B S Z ρ σ H → ∀ Q : VK, (∀ v H2 d ρ', Po d ρ' → TX H H2 → At K B S Z ρ' σ H2 → Dp K H2 v d → Q v H2) → te σ H Q
def EvXL (K : PySem.W.Frag) (B : Hp) (S : Addr → Prop) (Z : Hp → Prop) (te : TE) (ρ : List Sl) (Po : List PyData → Prop) : Prop := ∀ σ H, At K B S Z ρ σ H → ∀ Q : VK, (∀ p vs H2 es, Po es → TX H H2 → At K B S Z ρ σ H2 → New B S ρ p → H2 p = some (.lst vs) → DpAll K H2 vs es → Q (.ref p) H2) → te σ H Q
def EvAX (K : PySem.W.Frag) (B : Hp) (S : Addr → Prop) (Z : Hp → Prop) (ta : TA) (ρ : List Sl) (Po : List PyData → List Sl → Prop) : Prop := ∀ σ H, At K B S Z ρ σ H → ∀ Q : List V → Hp → Prop, (∀ vs H2 ds ρ', Po ds ρ' → TX H H2 → At K B S Z ρ' σ H2 → DpAll K H2 vs ds → Q vs H2) → ta σ H Q
def EvTX (K : PySem.W.Frag) (B : Hp) (S : Addr → Prop) (Z : Hp → Prop) (tt : TT) (ρ : List Sl) (Po : Bool → List Sl → Prop) : Prop := ∀ σ H, At K B S Z ρ σ H → ∀ Q : Bool → Hp → Prop, (∀ b H2 ρ', Po b ρ' → TX H H2 → At K B S Z ρ' σ H2 → Q b H2) → tt σ H Q
variable {te ta tb : TE} {tt tu : TT} {d : PyData} {r : R2} {ds es : List PyData} {tz tv tw : TS} {D : Ends} [zk : ZK S Z]
theorem ex_d (h : EvD K B te ρ d) : EvX K B S Z te ρ fun x ρ' => x = d ∧ ρ' = ρ := fun σ H a Q q => h σ H a.eb a.ok Q fun v H2 e h2 => q v H2 d ρ ⟨rfl, rfl⟩ (TX.of e) (a.ex e) h2
omit zk in
theorem ex_w {Po Po2 : PyData → List Sl → Prop} (h : EvX K B S Z te ρ Po) (w : ∀ d ρ', Po d ρ' → Po2 d ρ') : EvX K B S Z te ρ Po2 := fun σ H a Q q => h σ H a Q fun v H2 d ρ' p => q v H2 d ρ' (w d ρ' p)
theorem ax_a {ta : TA} (h : EvA K B ta ρ ds) : EvAX K B S Z ta ρ fun x ρ' => x = ds ∧ ρ' = ρ := fun σ H a Q q => h σ H a.eb a.ok Q fun v H2 e h2 => q v H2 ds ρ ⟨rfl, rfl⟩ (TX.of e) (a.ex e) h2
omit zk in
theorem ax_cons {tr : TA} {Pa : PyData → List Sl → Prop} {Po : List PyData → List Sl → Prop} (ha : EvX K B S Z te ρ Pa) (nl : ∀ d ρ', Pa d ρ' → noL d = true) (hr : ∀ d ρ', Pa d ρ' → EvAX K B S Z tr ρ' fun ds ρ2 => Po (d :: ds) ρ2) : EvAX K B S Z (tCons te tr) ρ Po := fun σ H a Q q =>
  ha σ H a _ fun v H1 d ρ' p tx a1 hv => hr d ρ' p σ H1 a1 _ fun vs H2 ds ρ2 p2 tx2 a2 hvs => q (v :: vs) H2 (d :: ds) ρ2 p2 (tx.trans tx2) a2 (.cons (dp_tx tx2 _ _ (nl d ρ' p) hv) hvs)
omit zk in
theorem ex_bin {Pa Po : PyData → List Sl → Prop} (ha : EvX K B S Z ta ρ Pa) (nl : ∀ d ρ', Pa d ρ' → noL d = true) (hb : ∀ d ρ', Pa d ρ' → EvX K B S Z tb ρ' fun y ρ2 => ∃ z, RD K r d y z ∧ Po z ρ2) [zk : ZK S Z] : EvX K B S Z (tOp r ta tb) ρ Po := fun σ H a Q q =>
  ha σ H a _ fun v H1 d ρ' p tx a1 hv => hb d ρ' p σ H1 a1 _ fun u H2 y ρ2 p2 tx2 a2 hu => by
    obtain ⟨z, hr, hz⟩ := p2
    exact hr v u H2 (dp_tx tx2 _ _ (nl d ρ' p) hv) hu Q fun w H3 e h3 => q w H3 z ρ2 hz ((tx.trans tx2).trans (TX.of e)) (a2.ex e) h3
/-- a call of a def that draws -/
theorem ex_call {R : List PyData → PyData → Prop} {i : Nat} {ta : TA} {E : XK} (zs : ZS st lf ln S Z B) (f : Fine S ρ) (hi : ρ[i]? = some (.r st)) (ha : EvA K B ta ρ ds) (he : ∃ d, R ds d) : EvX K B S Z (tCall (spZ K R) [] E (tCons (tVar i) ta)) ρ fun d ρ' => R ds d ∧ ρ' = ρ := fun σ H a Q q => by
  refine ⟨_, a.ok.r hi, ha σ H a.eb a.ok _ fun vs H1 e h1 => ?_⟩
  have a1 := a.ex e
  show spZ K R ((V.ref st :: vs) ++ []) H1 Q E
  rw [List.append_nil]
  exact ⟨st, lf, ln, vs, ds, rfl, zs.get a1.z, h1, he, fun d hd v H' k z hv => q v H' d ρ ⟨hd, rfl⟩ ((TX.of e).trans (k.tx (zs.get a1.z))) (a1.kp zs f k z) hv⟩
theorem exl_call {R : List PyData → List PyData → Prop} {i : Nat} {ta : TA} {E : XK} (zs : ZS st lf ln S Z B) (f : Fine S ρ) (hi : ρ[i]? = some (.r st)) (ha : EvA K B ta ρ ds) (he : ∃ d, R ds d) : EvXL K B S Z (tCall (spZL K R) [] E (tCons (tVar i) ta)) ρ fun es => R ds es := fun σ H a Q q => by
  refine ⟨_, a.ok.r hi, ha σ H a.eb a.ok _ fun vs H1 e h1 => ?_⟩
  have a1 := a.ex e
  show spZL K R ((V.ref st :: vs) ++ []) H1 Q E
  rw [List.append_nil]
  exact ⟨st, lf, ln, vs, ds, rfl, zs.get a1.z, h1, he, fun es hd p ws H' k z hp h2 h3 => q p ws H' es hd ((TX.of e).trans (k.tx (zs.get a1.z))) (a1.kp zs f k z) (a1.new hp) h2 h3⟩
/-- a def without draws, called with what was drawn -/
theorem ex_pure {R : List PyData → PyData → Prop} {ta : TA} {E : XK} {Pa : List PyData → List Sl → Prop} {Po : PyData → List Sl → Prop} (ha : EvAX K B S Z ta ρ Pa) (hR : ∀ ds ρ', Pa ds ρ' → ∃ d, R ds d ∧ Po d ρ') : EvX K B S Z (tCall (spD K R) [] E ta) ρ Po := fun σ H a Q q => ha σ H a _ fun vs H1 ds ρ' p tx a1 hv => by
  obtain ⟨d, h1, h2⟩ := hR ds ρ' p
  show spD K R (vs ++ []) H1 Q E
  rw [List.append_nil]
  exact ⟨ds, d, hv, h1, fun v H2 e hv2 => q v H2 d ρ' h2 (tx.trans (TX.of e)) (a1.ex e) hv2⟩
theorem ex_cb {rc : List V → Hp → VK → Prop} {ta : TA} {Pa : List PyData → List Sl → Prop} {Po : PyData → List Sl → Prop} (ha : EvAX K B S Z ta ρ Pa) (hR : ∀ ds ρ', Pa ds ρ' → ∃ d, RC K rc ds d ∧ Po d ρ') : EvX K B S Z (tCB rc ta) ρ Po := fun σ H a Q q => ha σ H a _ fun vs H1 ds ρ' p tx a1 hv => by
  obtain ⟨d, h1, h2⟩ := hR ds ρ' p
  exact h1 vs H1 hv Q fun v H2 e hv2 => q v H2 d ρ' h2 (tx.trans (TX.of e)) (a1.ex e) hv2
/-- xs.pop(i) -/
theorem ex_pop {i : Nat} {p : Addr} {Pi : PyData → List Sl → Prop} {Po : PyData → List Sl → Prop} {es0 : List PyData} (hi : ρ[i]? = some (.l p es0)) (h : EvX K B S Z te ρ Pi) (hB : B p = none) (hS : ¬ S p)
    (hk : ∀ d ρ', Pi d ρ' → ∃ (es : List PyData) (k : Nat) (z : PyData), ρ'[i]? = some (.l p es) ∧ d = eI k ∧ es[k]? = some z ∧ es.length ≤ 1000 ∧ Po z (ρ'.map (putL p (.l p (es.eraseIdx k))))) : EvX K B S Z (tBM K "list" rPopAt (tVar i) (tCons te tNil)) ρ Po := fun σ H a Q q => by
  obtain ⟨e1, xs, h1, h2, h3⟩ := a.ok.l hi
  refine ⟨_, e1, Or.inl ⟨rfl, xs, SqL.of h1⟩, h σ H a _ fun v H1 d ρ' pd tx a1 hv => ?_⟩
  obtain ⟨es, k, z, hi', rfl, hz, hl, hpo⟩ := hk d ρ' pd
  obtain ⟨e2, ys, k1, k2, k3⟩ := a1.ok.l hi'
  obtain rfl := dp_int hv
  obtain ⟨y, hy, dy⟩ := dps_getD k2 hz
  have hkl : k < ys.length := (List.getElem?_eq_some_iff.mp hy).1
  have hyl : ys.length ≤ 1000 := by rw [dps_len k2]; exact hl
  refine ⟨p, ys, (k : Int), k, y, rfl, rfl, k1, by omega, by omega, ?_, hy, ?_⟩
  · unfold seqIndex?
    have hc : ¬ ((k : Int) < 0) := by omega
    simp only [hc, if_false]
    have h2 : (decide ((0:Int) ≤ (k : Int)) && decide ((k : Int) < (ys.length : Int))) = true := by
      rw [Bool.and_eq_true]; exact ⟨decide_eq_true (by omega), decide_eq_true (by omega)⟩
    rw [if_pos h2, Int.toNat_natCast]
  have tx2 : TX H1 (upd H1 p (.lst (ys.eraseIdx k))) := TX.upd k1 rfl
  have hne : noLs (es.eraseIdx k) = true := by
    rw [noLs_iff] at k3 ⊢
    exact fun c hc => k3 c (List.mem_of_mem_eraseIdx hc)
  have hde : ∀ {vs : List V} {ds : List PyData} (k : Nat), DpAll K H1 vs ds → DpAll K H1 (vs.eraseIdx k) (ds.eraseIdx k) := by
    intro vs ds
    induction ds generalizing vs with
    | nil => intro k h; cases h; exact .nil
    | cons d ds ih =>
      intro k h
      cases h with
      | cons h1 h2 =>
        cases k with
        | zero => exact h2
        | succ k => exact .cons h1 (ih k h2)
  have hzn : noL z = true := (noLs_iff.mp k3) z (List.mem_of_getElem? hz)
  exact q y _ z _ hpo (tx.trans tx2) (a1.upd (o := .lst (ys.eraseIdx k)) (s' := .l p (es.eraseIdx k)) k1 rfl hB hS ⟨rfl, _, upd_same, dps_tx tx2 _ _ hne (hde k k2), hne⟩) (dp_tx tx2 _ _ hzn dy)
/-- row[i], row fixed -/
theorem ex_ixB {α : Type} {xs : List α} {enc : α → PyData} {i : Nat} {Pi : PyData → List Sl → Prop} {Po : PyData → List Sl → Prop} (hi : ρ[i]? = some (.d (.list (xs.map enc)))) (h : EvX K B S Z te ρ Pi) (hk : ∀ d ρ', Pi d ρ' → ∃ (k : Nat) (x : α), d = eI k ∧ xs[k]? = some x ∧ Po (enc x) ρ') : EvX K B S Z (tOp (rIxL K) (tVar i) te) ρ Po := fun σ H a Q q => by
  obtain ⟨v, e1, h1⟩ := a.ok.b hi (by simp [noL])
  refine ⟨v, e1, h σ H a _ fun u H1 d ρ' pd tx a1 hu => ?_⟩
  obtain ⟨k, x, rfl, hx, hpo⟩ := hk d ρ' pd
  have hlt : k < (xs.map enc).length := by
    rw [List.length_map]; exact (List.getElem?_eq_some_iff.mp hx).1
  refine rd_ixL (ds := xs.map enc) (i := (k : Int)) (z := enc x) ?_ v u H1 (dp_ex a1.eb _ _ h1) hu Q fun w H2 e h2 => q w H2 _ ρ' hpo (tx.trans (TX.of e)) (a1.ex e) h2
  unfold atI
  rw [Evl.ixN_nat hlt]
  show (xs.map enc)[k]? = _
  rw [List.getElem?_map, hx]; rfl
omit zk in
theorem tx_test {Po : Bool → List Sl → Prop} (h : EvX K B S Z te ρ fun d ρ' => ∃ b, d = .bool b ∧ Po b ρ') : EvTX K B S Z (tTest te) ρ Po := fun σ H a Q q => h σ H a _ fun v H2 d ρ' p tx a2 hv => by
  obtain ⟨b, rfl, hp⟩ := p
  exact ⟨b, dp_bl hv, q b H2 ρ' hp tx a2⟩
omit zk in
theorem tx_B {Po : Bool → List Sl → Prop} (h : EvX K B S Z te ρ fun d ρ' => ∃ b, d = .bool b ∧ Po b ρ') : EvTX K B S Z (tB te) ρ Po := fun σ H a Q q => h σ H a _ fun v H2 d ρ' p tx a2 hv => by
  obtain ⟨b, rfl, hp⟩ := p
  exact ⟨b, dp_bl hv, q b H2 ρ' hp tx a2⟩
theorem tx_t {b : Bool} (h : EvT K B tt ρ b) : EvTX K B S Z tt ρ fun x ρ' => x = b ∧ ρ' = ρ := fun σ H a Q q => h σ H a.eb a.ok Q fun H2 e => q b H2 ρ ⟨rfl, rfl⟩ (TX.of e) (a.ex e)
omit zk in
theorem tx_w {Po Po2 : Bool → List Sl → Prop} (h : EvTX K B S Z tt ρ Po) (w : ∀ d ρ', Po d ρ' → Po2 d ρ') : EvTX K B S Z tt ρ Po2 := fun σ H a Q q => h σ H a Q fun v H2 ρ' p => q v H2 ρ' (w v ρ' p)
omit zk in
theorem tx_not {Po : Bool → List Sl → Prop} (h : EvTX K B S Z tt ρ fun b ρ' => Po (!b) ρ') : EvTX K B S Z (tNot tt) ρ Po := fun σ H a Q q => h σ H a _ fun b H2 ρ' p tx a2 => q (!b) H2 ρ' p tx a2
omit zk in
theorem tx_or {Pa Po : Bool → List Sl → Prop} (h : EvTX K B S Z tt ρ Pa) (h1 : ∀ ρ', Pa true ρ' → Po true ρ') (h2 : ∀ ρ', Pa false ρ' → EvTX K B S Z tu ρ' Po) : EvTX K B S Z (tOr tt tu) ρ Po := fun σ H a Q q => h σ H a _ fun b H2 ρ' p tx a2 => by
  cases b with
  | true => exact q true H2 ρ' (h1 ρ' p) tx a2
  | false =>
    show tu σ H2 Q
    exact h2 ρ' p σ H2 a2 Q fun b H3 ρ2 p2 tx2 a3 => q b H3 ρ2 p2 (tx.trans tx2) a3
omit zk in
theorem tx_and {Pa Po : Bool → List Sl → Prop} (h : EvTX K B S Z tt ρ Pa) (h1 : ∀ ρ', Pa false ρ' → Po false ρ') (h2 : ∀ ρ', Pa true ρ' → EvTX K B S Z tu ρ' Po) : EvTX K B S Z (tAnd tt tu) ρ Po := fun σ H a Q q => h σ H a _ fun b H2 ρ' p tx a2 => by
  cases b with
  | false => exact q false H2 ρ' (h1 ρ' p) tx a2
  | true =>
    show tu σ H2 Q
    exact h2 ρ' p σ H2 a2 Q fun b H3 ρ2 p2 tx2 a3 => q b H3 ρ2 p2 (tx.trans tx2) a3
/-! statements -/
theorem q_asgX {i : Nat} {Po : PyData → List Sl → Prop} (h : EvX K B S Z te ρ Po) (k : ∀ d ρ', Po d ρ' → noL d = true ∧ TrR K B S Z tz (ρ'.set i (.d d)) D) : TrR K B S Z (tSeq (tAsg te (gName i)) tz) ρ D := fun σ H a =>
  h σ H a _ fun v H1 d ρ' p tx a1 hv => (k d ρ' p).2 _ _ (a1.set (sd (k d ρ' p).1 hv))
theorem q_asgXL {i : Nat} {Po : List PyData → Prop} (h : EvXL K B S Z te ρ Po) (k : ∀ es, Po es → noLs es = true ∧ ∀ p, New B S ρ p → TrR K B S Z tz (ρ.set i (.l p es)) D) : TrR K B S Z (tSeq (tAsg te (gName i)) tz) ρ D := fun σ H a =>
  h σ H a _ fun p vs H1 es pe tx a1 np h1 h2 => (k es pe).2 p np _ _ (a1.set ⟨rfl, vs, h1, h2, (k es pe).1⟩)
theorem q_retX {Po : PyData → List Sl → Prop} (h : EvX K B S Z te ρ Po) (k : ∀ d ρ' σ v H', Po d ρ' → At K B S Z ρ' σ H' → Dp K H' v d → D.rt v H') : TrR K B S Z (tSeq (tRet te) tz) ρ D := fun σ H a => h σ H a _ fun v H1 d ρ' p tx a1 hv => k d ρ' σ v H1 p a1 hv
theorem q_ifX {Po : Bool → List Sl → Prop} (h : EvTX K B S Z tt ρ Po) (h1 : ∀ ρ', Po true ρ' → TrR K B S Z tv ρ' { D with nx := tz D }) (h2 : ∀ ρ', Po false ρ' → TrR K B S Z tw ρ' { D with nx := tz D }) : TrR K B S Z (tSeq (tIfS tt tv tw) tz) ρ D := fun σ H a =>
  h σ H a _ fun b H1 ρ' p tx a1 => by
    cases b with
    | true => exact h1 ρ' p _ _ a1
    | false => exact h2 ρ' p _ _ a1
/-- xs.append(e) -/
theorem q_appX {i : Nat} {p : Addr} {ds0 : List PyData} {Po : PyData → List Sl → Prop} (hi : ρ[i]? = some (.l p ds0)) (h : EvX K B S Z te ρ Po) (hB : B p = none) (hS : ¬ S p)
    (k : ∀ d ρ', Po d ρ' → noL d = true ∧ ∃ ds, ρ'[i]? = some (.l p ds) ∧ ds.length < 100000 ∧ TrR K B S Z tz (ρ'.map (putL p (.l p (ds ++ [d])))) D) : TrR K B S Z (tSeq (tDrop (tBM K "list" rAppend (tVar i) (tCons te tNil))) tz) ρ D := fun σ H a => by
  obtain ⟨e1, xs, h1, h2, h3⟩ := a.ok.l hi
  refine ⟨_, e1, Or.inl ⟨rfl, xs, SqL.of h1⟩, h σ H a _ fun v H1 d ρ' pd tx a1 hv => ?_⟩
  obtain ⟨nd, ds, hi', hl, hk⟩ := k d ρ' pd
  obtain ⟨e2, ys, k1, k2, k3⟩ := a1.ok.l hi'
  refine ⟨p, ys, v, rfl, rfl, k1, Evl.sz_lt (by rw [dps_len k2]; exact hl), ?_⟩
  have tx2 : TX H1 (upd H1 p (.lst (ys ++ [v]))) := TX.upd k1 rfl
  exact hk _ _ (a1.upd (o := .lst (ys ++ [v])) (s' := .l p (ds ++ [d])) k1 rfl hB hS ⟨rfl, _, upd_same, dps_app (dps_tx tx2 _ _ k3 k2) (.cons (dp_tx tx2 _ _ nd hv) .nil), by
    rw [noLs_iff] at k3 ⊢
    intro c hc
    rcases List.mem_append.mp hc with hc | hc
    · exact k3 c hc
    · rw [List.mem_singleton.mp hc]; exact nd⟩)
/-- a, b = .. -/
theorem q_parX {i j : Nat} {ta : TA} {Po : List PyData → List Sl → Prop} (h : EvAX K B S Z ta ρ Po) (k : ∀ ds ρ', Po ds ρ' → ∃ x y, ds = [x, y] ∧ noL x = true ∧ noL y = true ∧ TrR K B S Z tz ((ρ'.set i (.d x)).set j (.d y)) D) : TrR K B S Z (tSeq (tPar i j ta) tz) ρ D := fun σ H a =>
  h σ H a _ fun vs H1 ds ρ' p tx a1 hv => by
    obtain ⟨x, y, rfl, nx, ny, hk⟩ := k ds ρ' p
    obtain ⟨v, w, rfl, h2, h3⟩ := two_dp hv
    exact ⟨v, w, rfl, hk _ _ ((a1.set (i := i) (sd nx h2)).set (i := j) (sd ny h3))⟩
end
end Fk
/-! defs that draw: their frames, and more rules with effects -/
namespace Fk
open PySem PySem.Spec PyProof.Rows L2
/-- a heap without the store -/
def noS (st lf ln : Addr) (H : Hp) : Hp := fun a => if a = st ∨ a = lf ∨ a = ln then none else H a
theorem noS_in {st lf ln a : Addr} {H : Hp} (h : StS st lf ln a) : noS st lf ln H a = none := if_pos h
theorem noS_out {st lf ln a : Addr} {H : Hp} (h : ¬ StS st lf ln a) : noS st lf ln H a = H a := if_neg h
instance zkS (st lf ln : Addr) : ZK (StS st lf ln) (StZ st lf ln) where
  st := fun {H H'} z k => by
    obtain ⟨far, near, b, t, h1, h2, h3, h4, h5, h6⟩ := z
    exact ⟨far, near, b, t, k _ _ h1 (.inl (.inl rfl)), k _ _ h2 (.inl (.inr (.inl rfl))), k _ _ h3 (.inl (.inr (.inr rfl))), h4, h5, h6⟩
  ne := fun {H a} z s e => by
    obtain ⟨o, h1, _⟩ := z.at s
    rw [e] at h1; cases h1
theorem zsS (st lf ln : Addr) (H : Hp) : ZS st lf ln (StS st lf ln) (StZ st lf ln) (noS st lf ln H) := ⟨fun _ h => h, fun z => z, fun _ _ z => z, fun _ h => noS_in h⟩
theorem noS_ex {st lf ln : Addr} {H : Hp} : Ex (noS st lf ln H) H := fun a o h => by
  by_cases hs : StS st lf ln a
  · rw [noS_in hs] at h; cases h
  · rw [noS_out hs] at h; exact h
theorem noS_kp {st lf ln : Addr} {H H' : Hp} (e : Ex (noS st lf ln H) H') : Kp st lf ln H H' := fun a o h n => e a o (by rw [noS_out n]; exact h)
def startZ (N : List Str) (st : Addr) (ds : List PyData) : List Sl := .r st :: (ds.map .d ++ List.replicate (N.length - (ds.length + 1)) .un)
section
variable {K : PySem.W.Frag} {B H H' : Hp} {S : Addr → Prop} {Z : Hp → Prop} {ρ ρ' : List Sl} {σ : L2.St} {st lf ln : Addr} {N : List Str}
theorem env_startZ {vs : List V} {ds : List PyData} (h : DpAll K H vs ds) (nl : noLs ds = true) : EnvOk K B H (L2.start N (.ref st :: vs)) (startZ N st ds) := by
  have hl := dps_len h
  have rep : ∀ n, EnvOk K B H (List.replicate n none) (List.replicate n .un) := fun n => by
    induction n with
    | zero => exact trivial
    | succ n ih => exact ⟨trivial, ih⟩
  unfold L2.start startZ
  rw [List.length_cons, hl]
  generalize N.length - (ds.length + 1) = n
  refine ⟨rfl, ?_⟩
  show EnvOk K B H (vs.map some ++ _) _
  clear hl
  induction ds generalizing vs with
  | nil => cases h; exact rep n
  | cons d ds ih =>
    cases h with
    | cons h1 h2 =>
      have nl : noL d = true ∧ noLs ds = true := by simpa [noLs] using nl
      exact ⟨⟨_, rfl, .inr ⟨nl.1, h1⟩⟩, ih h2 nl.2⟩
/-- the reading of a def that draws -/
theorem runZ {R : List PyData → PyData → Prop} {t : TS} (hn : ∀ ds d, R ds d → noLs ds = true)
    (h : ∀ (B : Hp) (st lf ln : Addr) (ds : List PyData), (∃ d, R ds d) → ZS st lf ln (StS st lf ln) (StZ st lf ln) B → ∀ D : Ends, (∀ d v H', R ds d → Ex B H' → StZ st lf ln H' → Dp K H' v d → D.rt v H') → TrR K B (StS st lf ln) (StZ st lf ln) t (startZ N st ds) D)
    (vs : List V) (H : Hp) (Q : VK) (E : XK) (hs : spZ K R vs H Q E) : t { nx := fun _ H' => Q .non H', rt := Q } (L2.start N vs) H := by
  obtain ⟨st, lf, ln, rest, ds, rfl, hz, hd, ⟨d, hR⟩, q⟩ := hs
  exact h (noS st lf ln H) st lf ln ds ⟨d, hR⟩ (zsS st lf ln H) _ (fun d v H' hR e z hv => q d hR v H' (noS_kp e) z hv) _ _ ⟨noS_ex, hz, env_startZ hd (hn ds d hR)⟩
theorem runZL {R : List PyData → List PyData → Prop} {t : TS} (hn : ∀ ds d, R ds d → noLs ds = true)
    (h : ∀ (B : Hp) (st lf ln : Addr) (ds : List PyData), (∃ d, R ds d) → ZS st lf ln (StS st lf ln) (StZ st lf ln) B → ∀ D : Ends, (∀ es p ws ρ σ H', R ds es → At K B (StS st lf ln) (StZ st lf ln) ρ σ H' → B p = none → ¬ StS st lf ln p → H' p = some (.lst ws) → DpAll K H' ws es → D.rt (.ref p) H') → TrR K B (StS st lf ln) (StZ st lf ln) t (startZ N st ds) D)
    (vs : List V) (H : Hp) (Q : VK) (E : XK) (hs : spZL K R vs H Q E) : t { nx := fun _ H' => Q .non H', rt := Q } (L2.start N vs) H := by
  obtain ⟨st, lf, ln, rest, ds, rfl, hz, hd, ⟨d, hR⟩, q⟩ := hs
  exact h (noS st lf ln H) st lf ln ds ⟨d, hR⟩ (zsS st lf ln H) _ (fun es p ws ρ σ H' hR a hp hs h1 h2 => q es hR p ws H' (noS_kp a.eb) a.z (by rw [noS_out hs] at hp; exact hp) h1 h2) _ _ ⟨noS_ex, hz, env_startZ hd (hn ds d hR)⟩
/-! the pick out of a row -/
def spPk (K : PySem.W.Frag) : Sp := fun vs H Q _ => ∃ (st lf ln p : Addr) (ws : List V) (es : List PyData), vs = [.ref st, .ref p] ∧ StZ st lf ln H ∧ H p = some (.lst ws) ∧ ¬ StS st lf ln p ∧ DpAll K H ws es ∧ noLs es = true ∧ es ≠ [] ∧ es.length < 1000 ∧
  ∀ (k : Nat) d, es[k]? = some d → ∀ v H', Kp st lf ln H H' → StZ st lf ln H' → Dp K H' v d → Q v H'
theorem runPk {t : TS}
    (h : ∀ (B : Hp) (st lf ln : Addr) (es : List PyData), noLs es = true → es ≠ [] → es.length < 1000 → ZS st lf ln (StS st lf ln) (StZ st lf ln) B → ∀ D : Ends, (∀ (k : Nat) d v H', es[k]? = some d → Ex B H' → StZ st lf ln H' → Dp K H' v d → D.rt v H') → TrR K B (StS st lf ln) (StZ st lf ln) t [.r st, .d (.list es)] D)
    (vs : List V) (H : Hp) (Q : VK) (E : XK) (hs : spPk K vs H Q E) : t { nx := fun _ H' => Q .non H', rt := Q } (L2.start ["_law_store_here", "_law_row"] vs) H := by
  obtain ⟨st, lf, ln, p, ws, es, rfl, hz, hp, hns, hd, hn, hne, hl, q⟩ := hs
  refine h (noS st lf ln H) st lf ln es hn hne hl (zsS st lf ln H) _ (fun k d v H' hk e z hv => q k d hk v H' (noS_kp e) z hv) _ _ ⟨noS_ex, hz, rfl, ⟨_, rfl, .inl ?_⟩, trivial⟩
  have tx : TX H (noS st lf ln H) := fun a xs h => by
    have na : ¬ StS st lf ln a := fun hs => by
      obtain ⟨o, h1, h2⟩ := hz.at hs
      rcases h with h | ⟨ob, h⟩
      · rw [h1] at h; cases h; cases h2
      · rw [h1] at h; cases h; cases h2
    rcases h with h | ⟨ob, h⟩
    · exact .inl (by rw [noS_out na]; exact h)
    · exact .inr ⟨ob, by rw [noS_out na]; exact h⟩
  exact .lst (SqL.of (by rw [noS_out hns]; exact hp)) (dps_tx tx _ _ hn hd)
theorem len_pk (vs : List V) (H : Hp) (Q : VK) (E : XK) (h : spPk K vs H Q E) : vs.length = 2 := by
  obtain ⟨_, _, _, _, _, _, rfl, _⟩ := h; rfl
variable {te ta tb : TE} {tt tu : TT} {d : PyData} {r : R2} {ds es : List PyData} {tz tv tw : TS} {D : Ends} [zk : ZK S Z]
theorem ex_pickV {i j : Nat} {p : Addr} {E : XK} (zs : ZS st lf ln S Z B) (f : Fine S ρ) (hi : ρ[i]? = some (.r st)) (hj : ρ[j]? = some (.l p es)) (hS : ¬ S p) (ne : es ≠ []) (hl : es.length < 1000) : EvX K B S Z (tCall (spPk K) [] E (tCons (tVar i) (tCons (tVar j) tNil))) ρ fun d ρ' => (∃ k : Nat, es[k]? = some d) ∧ ρ' = ρ := fun σ H a Q q => by
  obtain ⟨e1, ws, h1, h2, h3⟩ := a.ok.l hj
  refine ⟨_, a.ok.r hi, _, e1, ?_⟩
  exact ⟨st, lf, ln, p, ws, es, rfl, zs.get a.z, h1, fun h => hS (zs.sub p h), h2, h3, ne, hl, fun k d hk v H' kp z hv => q v H' d ρ ⟨⟨k, hk⟩, rfl⟩ (kp.tx (zs.get a.z)) (a.kp zs f kp z) hv⟩
theorem ex_pickN {i : Nat} {E : XK} (zs : ZS st lf ln S Z B) (f : Fine S ρ) (hi : ρ[i]? = some (.r st)) (h : EvL K B te ρ es) (nl : noLs es = true) (ne : es ≠ []) (hl : es.length < 1000) : EvX K B S Z (tCall (spPk K) [] E (tCons (tVar i) (tCons te tNil))) ρ fun d ρ' => (∃ k : Nat, es[k]? = some d) ∧ ρ' = ρ := fun σ H a Q q => by
  refine ⟨_, a.ok.r hi, h σ H a.eb a.ok _ fun p ws H1 e hp h1 h2 => ?_⟩
  have a1 := a.ex e
  exact ⟨st, lf, ln, p, ws, es, rfl, zs.get a1.z, h1, fun h => (a.new hp).s (zs.sub p h), h2, nl, ne, hl, fun k d hk v H' kp z hv => q v H' d ρ ⟨⟨k, hk⟩, rfl⟩ ((TX.of e).trans (kp.tx (zs.get a1.z))) (a1.kp zs f kp z) hv⟩
theorem ex_tup {ta : TA} {Pa : List PyData → List Sl → Prop} {Po : PyData → List Sl → Prop} (h : EvAX K B S Z ta ρ Pa) (hR : ∀ ds ρ', Pa ds ρ' → ds.length ≤ 1000 ∧ Po (.tuple ds) ρ') : EvX K B S Z (tTup ta) ρ Po := fun σ H a Q q => h σ H a _ fun vs H1 ds ρ' p tx a1 hv => by
  obtain ⟨h1, h2⟩ := hR ds ρ' p
  exact ⟨by rw [dps_len hv]; exact sz_of (by omega), fun q' hq => q _ _ _ ρ' h2 (tx.trans (TX.of (Evl.Ex.new hq))) (a1.ex (Evl.Ex.new hq)) (.tup (SqT.of upd_same) (dps_ex (Evl.Ex.new hq) _ _ hv))⟩
/-- return xs, xs a local list -/
theorem q_retV {i : Nat} {p : Addr} (hi : ρ[i]? = some (.l p es)) (k : ∀ σ H' ws, At K B S Z ρ σ H' → H' p = some (.lst ws) → DpAll K H' ws es → D.rt (.ref p) H') : TrR K B S Z (tSeq (tRet (tVar i)) tz) ρ D := fun σ H a => by
  obtain ⟨e1, ws, h1, h2, _⟩ := a.ok.l hi
  exact ⟨_, e1, k σ H ws a h1 h2⟩
/-- x, y, .. = e -/
theorem q_unpX {g : TG} {Po : PyData → List Sl → Prop} (h : EvX K B S Z te ρ Po) (k : ∀ d ρ', Po d ρ' → ∃ ρ2, GT K B S Z g ρ' d ρ2 ∧ TrR K B S Z tz ρ2 D) : TrR K B S Z (tSeq (tAsg te g) tz) ρ D := fun σ H a =>
  h σ H a _ fun v H1 d ρ' p tx a1 hv => by
    obtain ⟨ρ2, hg, hk⟩ := k d ρ' p
    exact hg _ _ v a1 hv _ fun σ2 a2 => hk _ _ a2
omit zk in
theorem gt_tup4 {i j l m : Nat} {x y z w : PyData} (n1 : noL x = true) (n2 : noL y = true) (n3 : noL z = true) (n4 : noL w = true) : GT K B S Z (gTup K 4 (gCons (gName i) (gCons (gName j) (gCons (gName l) (gCons (gName m) gNil))))) ρ (.tuple [x, y, z, w]) ((((ρ.set i (.d x)).set j (.d y)).set l (.d z)).set m (.d w)) := fun σ H v a h Q q => by
  obtain ⟨p, xs, rfl, hs, ha⟩ := dp_tup h
  cases ha with
  | cons h1 hr =>
    cases hr with
    | cons h2 hr =>
      obtain ⟨v3, v4, rfl, h3, h4⟩ := two_dp hr
      exact ⟨p, _, rfl, hs, rfl, _, _, rfl, _, _, rfl, _, _, rfl, _, _, rfl, rfl, q _ ((((a.set (i := i) (sd n1 h1)).set (i := j) (sd n2 h2)).set (i := l) (sd n3 h3)).set (i := m) (sd n4 h4))⟩
/-- for over range of what was drawn -/
theorem q_forRX {j : Nat} {ta : TA} {tb : TS} {Pa : List PyData → List Sl → Prop} (h : EvAX K B S Z ta ρ Pa) (P : Nat → Nat → List Sl → Prop)
    (hp : ∀ ds ρ', Pa ds ρ' → ∃ n : Nat, ds = [.int (n : Int)] ∧ n ≤ 100000 ∧ P n 0 ρ')
    (hb : ∀ n i ρ', i < n → P n i ρ' → TrR K B S Z tb (ρ'.set j (.d (.int (i : Int)))) (inLoop K B S Z (P n (i + 1)) D tz))
    (k : ∀ n ρ', P n n ρ' → TrR K B S Z tz ρ' D) : TrR K B S Z (tSeq (tFor (iRng1 ta) (gName j) tb) tz) ρ D := fun σ H a =>
  h σ H a _ fun vs H1 ds ρ1 pd tx a1 h1 => by
    obtain ⟨n, rfl, hn, h0⟩ := hp ds ρ1 pd
    have hvs : vs = [.int (n : Int)] := by
      obtain ⟨v, rfl, hv⟩ := one_dp h1
      rw [dp_int hv]
    refine ⟨(n : Int), hvs, by omega, by omega, ?_⟩
    have htn : ((n : Int)).toNat = n := Int.toNat_natCast n
    rw [htn]
    refine for_range (lo := 0) (n := n) (fun i σ H => Fk.lf K B S Z (P n i) σ H) ⟨ρ1, h0, a1⟩ (fun i σ H hi p => ?_) fun σ H p => ?_
    · obtain ⟨ρ', p, a'⟩ := p
      have e0 : (0 : Int) + (i : Int) = (i : Int) := Int.zero_add _
      rw [e0]
      exact hb n i ρ' hi p _ _ (a'.set ⟨_, rfl, .inr ⟨rfl, .int _⟩⟩)
    · obtain ⟨ρ', p, a'⟩ := p
      exact k n ρ' p _ _ a'
/-- for over a new list that a drawing def gave -/
theorem q_forNX {α : Type} {enc : α → PyData} {g : TG} {tb : TS} {ρn : List Sl → α → List Sl} {Po : List PyData → Prop} {tl : TE} (h : EvXL K B S Z tl ρ Po)
    (k0 : ∀ es, Po es → ∃ xs : List α, es = xs.map enc ∧ (∀ a ∈ xs, noL (enc a) = true) ∧ ∃ P : Nat → List Sl → Prop, P 0 ρ ∧
      (∀ (S' : Addr → Prop) (Z' : Hp → Prop) (ρ' : List Sl), ∀ a ∈ xs, GT K B S' Z' g ρ' (enc a) (ρn ρ' a)) ∧
      (∀ (S' : Addr → Prop) (Z' : Hp → Prop) [ZK S' Z'], ∀ p, New B S ρ p → (∀ q, S' q → S q ∨ q = p) → ∀ i a ρ', xs[i]? = some a → P i ρ' → TrR K B S' Z' tb (ρn ρ' a) (inLoop K B S' Z' (P (i + 1)) D tz)) ∧
      (∀ ρ', P xs.length ρ' → TrR K B S Z tz ρ' D)) : TrR K B S Z (tSeq (tFor (iList K tl) g tb) tz) ρ D := fun σ H a =>
  h σ H a _ fun p vs H1 es pe tx a1 np h1 h2 => by
    obtain ⟨xs, rfl, hx, P, h0, hg, hb, k⟩ := k0 es pe
    exact ⟨p, rfl, ⟨vs, SqL.of h1⟩, for_held a1 h1 h2 hx P h0 hg (fun S' Z' zk' hS1 hS2 hZ i a ρ' ha hp => hb S' Z' p np hS1 i a ρ' ha hp) k⟩
end
end Fk
/-! the walks, 16: what is drawn: a pick, a line -/
namespace Fk
open PySem PySem.Spec PyProof.Rows L2
section
variable {P : Program} {w : World} {K : PySem.W.Frag} {mg : Str → Option Value} {base : Heap}
abbrev sp__law_pick (K : PySem.W.Frag) : Sp := spPk K
theorem len__law_pick (vs : List V) (H : Hp) (Q : VK) (E : XK) (h : sp__law_pick K vs H Q E) : vs.length = 2 := len_pk vs H Q E h
-- slots: _law_store_here:0 _law_row:1  level 2
abbrev N__law_pick : List Str := ["_law_store_here", "_law_row"]
theorem sc__law_pick : FnScope N__law_pick ["_law_store_here", "_law_row"] (defScope s__law_pick) := ⟨rfl, rfl, rfl, by decide +kernel, rfl, by decide +kernel, by decide +kernel⟩
theorem bd__law_pick : BindsBy "_law_pick" s__law_pick ["_law_store_here", "_law_row"] := fun _ _ _ _ _ _ us hl => match us, hl with | [_, _], _ => rfl
theorem ok__law_pick (F : Here K mg "_law_pick" s__law_pick) (bs : Bs mg) (h__law_draw : Ok P w K mg base 1 "_law_draw" ["_law_store_here", "_law_size"] (sp__law_draw K)) : Ok P w K mg base 2 "_law_pick" ["_law_store_here", "_law_row"] (sp__law_pick K) := by
  have nd := sc__law_pick.nd
  refine mkG F sc__law_pick bd__law_pick ( len__law_pick) fun f cdv A outer s H E hg hr => ⟨_, (pss_cons (ps_ret (pe_ix (ix_lk K rfl) (pv 1) (pe_callN h__law_draw hg hr rfl (pa_cons (pv 0) (pa_cons (pe_callB (cr_lenk K rfl) rfl bs.len boot_len (pa_cons (pv 1) pa_nil)) pa_nil))) (fun _ _ => rfl)))
    pss_nil), runPk fun B st lf ln es hn hne hl zs D hD => ?_⟩
  refine q_retX (Po := fun d ρ' => (∃ k : Nat, es[k]? = some d) ∧ ρ' = [.r st, .d (.list es)]) (ex_ixB (xs := es) (enc := id) (by rw [List.map_id]; rfl) (ex_call (R := R__law_draw) (ds := [eI es.length]) zs ⟨by simp [adrs], ?_⟩ rfl (ea_cons (ed_cb (ea_cons (ed_var rfl) ea_nil) rc_lenL) ea_nil) ?_) ?_) fun d ρ' σ v H' hp a hv => ?_
  · simp [noT]
  · exact ⟨eI 0, es.length, 0, rfl, List.length_pos_iff.mpr hne, by omega, List.length_pos_iff.mpr hne, rfl⟩
  · rintro d ρ' ⟨⟨n, r, he, _, _, hr, rfl⟩, rfl⟩
    have hn : es.length = n := by
      have h := (List.cons.inj he).1
      injection h with h
      exact Int.ofNat.inj h
    subst hn
    exact ⟨r, es[r], rfl, List.getElem?_eq_getElem hr, ⟨r, List.getElem?_eq_getElem hr⟩, rfl⟩
  · obtain ⟨⟨k, hk⟩, rfl⟩ := hp
    exact hD k d v H' hk a.eb a.z hv
/-! _law_line -/
def R__law_line (ds : List PyData) (es : List PyData) : Prop := ∃ (n : Nat) (l : Lot), ds = [eI n] ∧ n ≤ 9 ∧ l.Perm (List.range n) ∧ es = l.map eI
abbrev sp__law_line (K : PySem.W.Frag) : Sp := spZL K R__law_line
theorem len__law_line : ∀ ds es, R__law_line ds es → ds.length + 1 = 2 := by rintro ds d ⟨n, l, rfl, _⟩; rfl
theorem nl__law_line : ∀ ds es, R__law_line ds es → noLs ds = true := by rintro ds d ⟨n, l, rfl, _⟩; rfl
theorem erase_map {α β : Type} {f : α → β} : ∀ {l : List α} {k : Nat}, (l.map f).eraseIdx k = (l.eraseIdx k).map f
  | [], _ => rfl
  | _ :: _, 0 => rfl
  | x :: l, k + 1 => by
    simp only [List.map_cons, List.eraseIdx_cons_succ]
    rw [erase_map]
theorem perm_erase {l : Lot} {k : Nat} {x : Nat} (h : l[k]? = some x) (acc : Lot) : (acc ++ l).Perm ((acc ++ [x]) ++ l.eraseIdx k) := by
  induction l generalizing k with
  | nil => simp at h
  | cons y l ih =>
    cases k with
    | zero =>
      simp at h
      subst h
      simp
    | succ k =>
      simp at h
      have := ih h
      simp only [List.eraseIdx_cons_succ]
      refine List.perm_middle.trans ?_
      refine (List.Perm.cons y this).trans ?_
      exact List.perm_middle.symm
-- slots: _law_store_here:0 _law_size:1 _law_turn:2 _law_rest:3 _law_found:4  level 2
abbrev N__law_line : List Str := ["_law_store_here", "_law_size", "_law_turn", "_law_rest", "_law_found"]
theorem sc__law_line : FnScope N__law_line ["_law_store_here", "_law_size"] (defScope s__law_line) := ⟨rfl, rfl, rfl, by decide +kernel, rfl, by decide +kernel, by decide +kernel⟩
theorem bd__law_line : BindsBy "_law_line" s__law_line ["_law_store_here", "_law_size"] := fun _ _ _ _ _ _ us hl => match us, hl with | [_, _], _ => rfl
theorem ok__law_line (F : Here K mg "_law_line" s__law_line) (bs : Bs mg) (h__law_draw : Ok P w K mg base 1 "_law_draw" ["_law_store_here", "_law_size"] (sp__law_draw K)) : Ok P w K mg base 2 "_law_line" ["_law_store_here", "_law_size"] (sp__law_line K) := by
  have nd := sc__law_line.nd
  refine mkG F sc__law_line bd__law_line (lenZL len__law_line) fun f cdv A outer s H E hg hr => ⟨_, (pss_cons (ps_par (i := 3) (j := 4) rfl nd rfl rfl (by decide) rfl rfl (pa_cons (pe_listRg rfl rfl bs.list (prg_1 rfl bs.range (pv 1))) (pa_cons (pe_lst pa_nil) pa_nil)) rfl)
    (pss_cons (ps_for PassesOwn.never rfl (pi_range1 rfl bs.range (pa_cons (pv 1) pa_nil)) (pg_name (i := 2) nd rfl (Or.inl rfl)) (pss_cons (ps_expr (pe_bm PySem.F.plainAttrs_list PySem.F.slot_list_append PySem.F.type_list_append mt_append (pv 4) (pa_cons (pe_bm PySem.F.plainAttrs_list PySem.F.slot_list_pop PySem.F.type_list_pop mt_popAt (pv 3) (pa_cons (pe_callN h__law_draw hg hr rfl (pa_cons (pv 0) (pa_cons (pe_callB (cr_lenk K rfl) rfl bs.len boot_len (pa_cons (pv 3) pa_nil)) pa_nil))) pa_nil)) pa_nil)))
    pss_nil))
    (pss_cons (ps_ret (pv 4))
    pss_nil))), runZL nl__law_line fun B st lf ln ds hR zs D hD => ?_⟩
  obtain ⟨es0, n, l0, rfl, hn, hl0, rfl⟩ := hR
  refine q_parLL (ds := (List.range n).map eI) (es := []) (el_is (el_listRg (n := n) (ed_var rfl) (by omega)) rfl) (el_lst ea_nil (by simp)) (nls_I _) rfl fun p q np nq hpq => ?_
  refine q_forR (n := n) (j := 2) (ea_cons (ed_var rfl) ea_nil) (by omega) (fun i ρ => ∃ (rest acc : Lot) (s : Sl), (acc ++ rest).Perm (List.range n) ∧ acc.length = i ∧ noT [s] = true ∧ adrs [s] = [] ∧ ρ = [.r st, .d (eI n), s, .l p (rest.map eI), .l q (acc.map eI)]) ⟨List.range n, [], .un, by simp, rfl, rfl, rfl, rfl⟩ (fun i ρ' hi hp => ?_) fun ρ' hp => ?_
  · obtain ⟨rest, acc, s, hperm, hlen, _, _, rfl⟩ := hp
    have hrl : rest.length = n - i := by
      have := hperm.length_eq
      rw [List.length_append, List.length_range] at this
      omega
    show TrR K B _ _ _ [.r st, .d (eI n), .d (eI i), .l p (rest.map eI), .l q (acc.map eI)] _
    refine q_appX (p := q) (ds0 := acc.map eI) (Po := fun d ρ' => ∃ (k x : Nat), rest[k]? = some x ∧ d = eI x ∧ ρ' = [.r st, .d (eI n), .d (eI i), .l p ((rest.eraseIdx k).map eI), .l q (acc.map eI)]) rfl (ex_pop (p := p) (es0 := rest.map eI) rfl (ex_call (R := R__law_draw) (ds := [eI rest.length]) zs ⟨?_, ?_⟩ rfl (ea_cons (ed_is (ed_cb (ea_cons (ed_varL rfl) ea_nil) rc_lenL) (by rw [List.length_map]; rfl)) ea_nil) ?_) np.b np.s ?_) nq.b nq.s ?_
    · intro a ha
      simp [adrs] at ha
      rcases ha with rfl | rfl
      · exact np.s
      · exact nq.s
    · simp [noT]
    · exact ⟨eI 0, rest.length, 0, rfl, by omega, by omega, by omega, rfl⟩
    · rintro d ρ' ⟨⟨m, r, he, _, _, hr, rfl⟩, rfl⟩
      have hm : rest.length = m := by
        have h := (List.cons.inj he).1
        injection h with h
        exact Int.ofNat.inj h
      subst hm
      refine ⟨rest.map eI, r, eI rest[r], rfl, rfl, by rw [List.getElem?_map, List.getElem?_eq_getElem hr]; rfl, by rw [List.length_map]; omega, r, rest[r], List.getElem?_eq_getElem hr, rfl, ?_⟩
      simp [putL, hpq.symm]
      exact erase_map
    · rintro d ρ' ⟨k, x, hk, rfl, rfl⟩
      refine ⟨rfl, acc.map eI, rfl, by rw [List.length_map]; omega, q_lf ⟨rest.eraseIdx k, acc ++ [x], .d (eI i), (perm_erase hk acc).symm.trans hperm, by simp [hlen], rfl, rfl, ?_⟩⟩
      simp [putL, hpq]
  · obtain ⟨rest, acc, s, hperm, hlen, hs1, hs2, rfl⟩ := hp
    have hrl : rest = [] := by
      have := hperm.length_eq
      rw [List.length_append, List.length_range] at this
      exact List.length_eq_zero_iff.mp (by omega)
    subst hrl
    refine q_retV (p := q) (es := acc.map eI) rfl fun σ H' ws a h1 h2 => hD (acc.map eI) q ws _ σ H' ⟨n, acc, rfl, hn, by simpa using hperm, rfl⟩ a nq.b nq.s h1 h2
end
end Fk
/-! comprehensions whose condition draws -/
namespace Fk
open PySem PySem.Spec PyProof.Rows L2
section
variable {K : PySem.W.Frag} {B H H' : Hp} {S : Addr → Prop} {Z : Hp → Prop} {ρ ρ' : List Sl} {σ : L2.St} {st lf ln : Addr}
/-- a test that touches nothing but the store -/
def EvTK (K : PySem.W.Frag) (B : Hp) (S : Addr → Prop) (Z : Hp → Prop) (st lf ln : Addr) (tt : TT) (ρ : List Sl) (Po : Bool → Prop) : Prop := ∀ σ H, At K B S Z ρ σ H → ∀ Q : Bool → Hp → Prop, (∀ b H2, Po b → Kp st lf ln H H2 → StZ st lf ln H2 → Q b H2) → tt σ H Q
variable {te ta tl : TE} {tt tu : TT} {d : PyData} {ds es : List PyData} [zk : ZK S Z]
theorem tk_draw {i : Nat} {E : XK} {n : Nat} (zs : ZS st lf ln S Z B) (f : Fine S ρ) (hi : ρ[i]? = some (.r st)) (hn : 0 < n) (hl : n < 1000000) : EvTK K B S Z st lf ln (tTest (tOp (rEqD K) (tCall (spZ K R__law_draw) [] E (tCons (tVar i) (tCons (tC (.int (n : Nat))) tNil))) (tC (.int 0)))) ρ fun _ => True := fun σ H a Q q => by
  refine ⟨_, a.ok.r hi, ?_⟩
  refine ⟨st, lf, ln, [.int (n : Int)], [eI n], rfl, zs.get a.z, .cons (.int _) .nil, ⟨eI 0, n, 0, rfl, hn, hl, hn, rfl⟩, ?_⟩
  rintro d ⟨m, r, he, _, _, hr, rfl⟩ v H2 k z hv
  obtain rfl := dp_int hv
  exact ⟨.int (r : Int), .int 0, .int _, .int _, shaped_int _, shaped_int _, _, rfl, q _ H2 trivial k z⟩
theorem tk_or {b : Bool} {Po Po2 : Bool → Prop} (zs : ZS st lf ln S Z B) (f : Fine S ρ) (h1 : EvT K B tt ρ b) (h2 : EvTK K B S Z st lf ln tu ρ Po) (w1 : b = true → Po2 true) (w2 : b = false → ∀ c, Po c → Po2 c) : EvTK K B S Z st lf ln (tOr tt tu) ρ Po2 := fun σ H a Q q => h1 σ H a.eb a.ok _ fun H1 e => by
  cases b with
  | true => exact q true H1 (w1 rfl) (Kp.of e) (zs.get (a.ex e).z)
  | false =>
    show tu σ H1 Q
    exact h2 σ H1 (a.ex e) Q fun c H2 p k z => q c H2 (w2 rfl c p) ((Kp.of e).trans k) z
theorem At.updN {p : Addr} {u o : HO} (a : At K B S Z ρ σ H) (np : New B S ρ p) (hp : H p = some u) (hu : isT u = false) (ht : noT ρ = true) : At K B S Z ρ σ (L2.upd H p o) :=
  ⟨fun b w h => by
    have ne : b ≠ p := fun e => by rw [e, np.b] at h; cases h
    rw [upd_ne ne]; exact a.eb b w h,
  zk.st a.z fun b w h hb => by
    have ne : b ≠ p := fun e => by
      subst e
      rcases hb with hb | hb
      · exact np.s hb
      · rw [hp] at h; cases h; rw [hu] at hb; cases hb
    rw [upd_ne ne]; exact h,
  EnvOk.kp (TX.upd hp hu) a.ok (fun q hq o' h => by
    have ne : q ≠ p := fun e => np.a q hq e
    rw [upd_ne ne]; exact h) ht⟩
/-- what is gathered so far -/
def AcZ (K : PySem.W.Frag) (B : Hp) (S : Addr → Prop) (Z : Hp → Prop) (ρ : List Sl) (σ : L2.St) (H1 : Hp) (D : Addr) {α : Type} (enc : α → PyData) (must : α → Bool) (xs : List α) (H : Hp) : Prop :=
  ∃ (l : List α) (acc : List V), l.Sublist xs ∧ (∀ x ∈ xs, must x = true → x ∈ l) ∧ H D = some (.lst acc) ∧ DpAll K H acc (l.map enc) ∧ At K B S Z ρ σ H ∧ TX H1 H
theorem lcz_turn {α : Type} {xs : List α} {i : Nat} {a : α} {v : V} {H1 H' : Hp} {D : Addr} {σ : L2.St} {j : Nat} {enc : α → PyData} {must : α → Bool} (zs : ZS st lf ln S Z B) (f : Fine S ρ) (fj : Fine S (ρ.set j (.d (enc a)))) (hi : xs[i]? = some a) (hlen : xs.length ≤ 50000)
    (hv : Dp K H' v (enc a)) (hx : ∀ a ∈ xs, noL (enc a) = true) (nD : New B S ρ D) (p : AcZ K B S Z ρ σ H1 D enc must (xs.take i) H')
    (ht : EvTK K B S Z st lf ln tt (ρ.set j (.d (enc a))) fun b => must a = true → b = true) (he : EvD K B te (ρ.set j (.d (enc a))) (enc a)) :
    gName j v (wipe σ [j]) H' fun σ2 H2 => wipe σ2 [j] = wipe σ [j] ∧ tt σ2 H2 fun b H3 => if b = true then te σ2 H3 fun y H4 => ∃ acc, H4 D = some (.lst acc) ∧ acc.length < sizeLine ∧ AcZ K B S Z ρ σ H1 D enc must (xs.take (i + 1)) (L2.upd H4 D (.lst (acc ++ [y]))) else AcZ K B S Z ρ σ H1 D enc must (xs.take (i + 1)) H3 := by
  show wipe ((wipe σ [j]).set j (some v)) [j] = wipe σ [j] ∧ tt ((wipe σ [j]).set j (some v)) H' _
  rw [wipe1s]
  refine ⟨by rw [← wipe1s (σ := σ), wipe1], ?_⟩
  obtain ⟨l, acc, hsub, hmust, hD, hacc, hat, htx⟩ := p
  have hxa := hx a (List.mem_of_getElem? hi)
  have hno : noLs (l.map enc) = true := noLs_map fun y hy => hx y (List.mem_of_mem_take (hsub.subset hy))
  have et : xs.take (i + 1) = xs.take i ++ [a] := by rw [List.take_add_one, hi]; rfl
  have at1 : At K B S Z (ρ.set j (.d (enc a))) (σ.set j (some v)) H' := hat.set (sd hxa hv)
  have hDS : ¬ StS st lf ln D := fun h => nD.s (zs.sub D h)
  refine ht _ H' at1 _ fun b H3 hb k z => ?_
  have at3 : At K B S Z ρ σ H3 := hat.kp zs f k z
  have at3j : At K B S Z (ρ.set j (.d (enc a))) (σ.set j (some v)) H3 := at1.kp zs fj k z
  have tx3 : TX H' H3 := k.tx (zs.get hat.z)
  have hD3 : H3 D = some (.lst acc) := k D _ hD hDS
  have hacc3 := dps_tx tx3 _ _ hno hacc
  cases b with
  | false =>
    rw [if_neg Bool.false_ne_true]
    refine ⟨l, acc, ?_, ?_, hD3, hacc3, at3, htx.trans tx3⟩
    · rw [et]; exact hsub.trans (List.sublist_append_left _ _)
    · intro x hx' hm
      rw [et] at hx'
      rcases List.mem_append.mp hx' with h | h
      · exact hmust x h hm
      · rw [List.mem_singleton.mp h] at hm; cases hb hm
  | true =>
    rw [if_pos rfl]
    refine he _ H3 at3j.eb at3j.ok _ fun w H4 e4 hw => ⟨acc, e4 _ _ hD3, ?_, ?_⟩
    · refine Evl.sz_lt ?_
      rw [dps_len hacc3, List.length_map]
      have h1 := hsub.length_le
      have h2 : (xs.take i).length ≤ xs.length := by rw [List.length_take]; omega
      omega
    · have hD4 := e4 _ _ hD3
      have tx5 : TX H4 (L2.upd H4 D (.lst (acc ++ [w]))) := TX.upd hD4 rfl
      refine ⟨l ++ [a], acc ++ [w], ?_, ?_, upd_same, ?_, (at3.ex e4).updN nD hD4 rfl f.t, ((htx.trans tx3).trans (TX.of e4)).trans tx5⟩
      · rw [et]; exact hsub.append (List.Sublist.refl _)
      · intro x hx' hm
        rw [et] at hx'
        rcases List.mem_append.mp hx' with h | h
        · exact List.mem_append_left _ (hmust x h hm)
        · exact List.mem_append_right _ h
      · rw [List.map_append]
        exact dps_app (dps_tx tx5 _ _ hno (dps_ex e4 _ _ hacc3)) (.cons (dp_tx tx5 _ _ hxa hw) .nil)
theorem exl_lcR {n j : Nat} {ta : TA} (zs : ZS st lf ln S Z B) (f : Fine S ρ) (fj : ∀ a : Nat, Fine S (ρ.set j (.d (eI a)))) (h : EvA K B ta ρ [.int (n : Int)]) (hlen : n ≤ 50000)
    (ht : ∀ a, a < n → EvTK K B S Z st lf ln tt (ρ.set j (.d (eI a))) fun _ => True) (he : ∀ a, a < n → EvD K B te (ρ.set j (.d (eI a))) (eI a)) :
    EvXL K B S Z (tLc (iRng1 ta) (gName j) tt te [j]) ρ fun es => ∃ l : Lot, l.Sublist (List.range n) ∧ es = l.map eI := fun σ H a Q q => h σ H a.eb a.ok _ fun vs H1 e1 h1 => by
  have hvs : vs = [.int (n : Int)] := by
    obtain ⟨v, rfl, hv⟩ := one_dp h1
    rw [dp_int hv]
  refine ⟨(n : Int), hvs, by omega, by omega, fun D hD => ?_⟩
  have htn : ((n : Int)).toNat = n := Int.toNat_natCast n
  rw [htn]
  have a1 := a.ex e1
  have nD : New B S ρ D := a1.new hD
  have eD : Ex H1 (L2.upd H1 D (.lst [])) := Evl.Ex.new hD
  refine lc_range (lo := 0) (n := n) (fun i H' => AcZ K B S Z ρ σ H1 D eI (fun _ => false) ((List.range n).take i) H') ⟨[], [], by simp, by simp, upd_same, .nil, a1.ex eD, TX.of eD⟩ (fun i H' hi p => ?_) fun H' p => ?_
  · have hxi : (List.range n)[i]? = some i := by rw [List.getElem?_range hi]
    have e0 : (0 : Int) + (i : Int) = (i : Int) := Int.zero_add _
    rw [e0]
    exact lcz_turn zs f (fj i) hxi (by rw [List.length_range]; exact hlen) (.int _) (fun _ _ => rfl) nD p (fun σ H a Q q => ht i hi σ H a Q fun b H2 _ k z => q b H2 (fun z => nomatch z) k z) (he i hi)
  · obtain ⟨l, acc, h2, _, h3, h4, h5, h6⟩ := p
    have e : (List.range n).take n = List.range n := List.take_of_length_le (by rw [List.length_range]; exact Nat.le_refl _)
    rw [e] at h2
    exact q D acc H' _ ⟨l, h2, rfl⟩ ((TX.of e1).trans h6) h5 nD h3 h4
theorem exl_lcT {α : Type} {xs : List α} {enc : α → PyData} {must : α → Bool} {j : Nat} (zs : ZS st lf ln S Z B) (f : Fine S ρ) (fj : ∀ a, Fine S (ρ.set j (.d (enc a)))) (h : EvD K B tl ρ (.tuple (xs.map enc))) (hlen : xs.length ≤ 50000) (hx : ∀ a ∈ xs, noL (enc a) = true)
    (ht : ∀ a ∈ xs, EvTK K B S Z st lf ln tt (ρ.set j (.d (enc a))) fun b => must a = true → b = true) (he : ∀ a ∈ xs, EvD K B te (ρ.set j (.d (enc a))) (enc a)) :
    EvXL K B S Z (tLc (iTup K tl) (gName j) tt te [j]) ρ fun es => ∃ l : List α, l.Sublist xs ∧ (∀ x ∈ xs, must x = true → x ∈ l) ∧ es = l.map enc := fun σ H a Q q => h σ H a.eb a.ok _ fun v H1 e1 h1 => by
  obtain ⟨b, ys, rfl, hs, ha⟩ := dp_tup h1
  refine ⟨b, rfl, ⟨ys, hs⟩, fun D hD => ?_⟩
  have hyl : ys.length = xs.length := by rw [dps_len ha, List.length_map]
  have a1 := a.ex e1
  have nD : New B S ρ D := a1.new hD
  have eD : Ex H1 (L2.upd H1 D (.lst [])) := Evl.Ex.new hD
  refine lc_tup (K := K) (a := b) (xs := ys) (fun i H' => AcZ K B S Z ρ σ H1 D enc must (xs.take i) H') ⟨[], [], by simp, by simp, upd_same, .nil, a1.ex eD, TX.of eD⟩ (fun i H' _ p => ?_) (fun i y H' hy p => ?_) fun H' p => ?_
  · obtain ⟨l, acc, h2, _, h3, h4, h5, h6⟩ := p
    exact h6.sq hs
  · obtain ⟨d, hd, hyd⟩ := dps_get ha hy
    rw [List.getElem?_map] at hd
    cases hxi : xs[i]? with
    | none => rw [hxi] at hd; simp at hd
    | some c =>
      rw [hxi] at hd
      obtain rfl : enc c = d := by simpa using hd
      have hm := List.mem_of_getElem? hxi
      have tx6 : TX H1 H' := by obtain ⟨l, acc, h2, _, h3, h4, h5, h6⟩ := id p; exact h6
      exact lcz_turn zs f (fj c) hxi hlen (dp_tx tx6 _ _ (hx c hm) hyd) hx nD p (ht c hm) (he c hm)
  · obtain ⟨l, acc, h2, hm, h3, h4, h5, h6⟩ := p
    rw [hyl, List.take_length] at h2 hm
    exact q D acc H' _ ⟨l, h2, hm, rfl⟩ ((TX.of e1).trans h6) h5 nD h3 h4
end
end Fk
/-! the walks, 17: some leaves -/
namespace Fk
open PySem PySem.Spec PyProof.Rows L2
section
variable {P : Program} {w : World} {K : PySem.W.Frag} {mg : Str → Option Value} {base : Heap}
theorem nodup_len : ∀ {a b : Lot}, a.Nodup → (∀ x ∈ a, x ∈ b) → a.length ≤ b.length
  | [], b, _, _ => Nat.zero_le _
  | x :: a, b, h, s => by
    have hx := s x List.mem_cons_self
    have h1 := List.nodup_cons.mp h
    have h2 := nodup_len (a := a) (b := b.erase x) h1.2 fun y hy => (List.mem_erase_of_ne (fun e => h1.1 (by rw [← e]; exact hy))).mpr (s y (List.mem_cons_of_mem _ hy))
    rw [List.length_erase_of_mem hx] at h2
    have := List.length_pos_of_mem hx
    simp
    omega
theorem sortN_lt {l : Lot} (h : l.Nodup) : (sortN l).Pairwise (· < ·) := by
  have h1 := sortN_sorted l
  have h2 : (sortN l).Pairwise (· ≠ ·) := (sortN_perm l).nodup_iff.mpr h
  exact List.Pairwise.imp₂ (fun a b h1 h2 => by omega) h1 h2
def R__law_some (ds : List PyData) (d : PyData) : Prop := ∃ (n least : Nat) (l : Lot), ds = [eI n, eI least] ∧ n ≤ 9 ∧ l.Pairwise (· < ·) ∧ (∀ x ∈ l, x < n) ∧ (least ≤ l.length ∨ n ≤ l.length) ∧ d = eLot l
abbrev sp__law_some (K : PySem.W.Frag) : Sp := spZ K R__law_some
theorem len__law_some : ∀ ds es, R__law_some ds es → ds.length + 1 = 3 := by rintro ds d ⟨n, least, l, rfl, _⟩; rfl
theorem nl__law_some : ∀ ds es, R__law_some ds es → noLs ds = true := by rintro ds d ⟨n, least, l, rfl, _⟩; rfl
-- slots: _law_store_here:0c _law_size:1 _law_least:2 _law_found:3 _law_leaf:4  level 3
abbrev N__law_some : List Str := ["_law_store_here", "_law_size", "_law_least", "_law_found", "_law_leaf"]
theorem sc__law_some : FnScope N__law_some ["_law_store_here", "_law_size", "_law_least"] (defScope s__law_some) := ⟨rfl, rfl, rfl, by decide +kernel, rfl, by decide +kernel, by decide +kernel⟩
theorem bd__law_some : BindsBy "_law_some" s__law_some ["_law_store_here", "_law_size", "_law_least"] := fun _ _ _ _ _ _ us hl => match us, hl with | [_, _, _], _ => rfl
theorem ok__law_some (F : Here K mg "_law_some" s__law_some) (bs : Bs mg) (h__law_draw : Ok P w K mg base 1 "_law_draw" ["_law_store_here", "_law_size"] (sp__law_draw K)) (h__law_line : Ok P w K mg base 2 "_law_line" ["_law_store_here", "_law_size"] (sp__law_line K)) : Ok P w K mg base 3 "_law_some" ["_law_store_here", "_law_size", "_law_least"] (sp__law_some K) := by
  have nd := sc__law_some.nd
  refine mkG F sc__law_some bd__law_some (lenZ len__law_some) fun f cdv A outer s H E hg hr => ⟨_, (pss_cons (ps_setLc (own := [("_law_leaf", 4)]) (i := 3) rfl nd rfl rfl rfl (pi_range1 rfl bs.range (pa_cons (pv 1) pa_nil)) (blk1 rfl rfl rfl rfl rfl) (fun _ _ _ _ _ => pg_name (i := 4) nd rfl (by first | exact Or.inl rfl | exact Or.inr rfl)) (fun _ _ _ _ _ => pts_one (pt_cmpR (op_eqk K rfl hr.units) (pe_callN h__law_draw hg (hr.mono (by decide)) rfl (pa_cons (pv 0) (pa_cons pe_int pa_nil))) pe_int (nomark _))) (fun _ _ _ _ _ => (pv 4)))
    (pss_cons (ps_for PassesOwn.never rfl (pi_lk K rfl (pe_callN h__law_line hg hr rfl (pa_cons (pv 0) (pa_cons (pv 1) pa_nil)))) (pg_name (i := 4) nd rfl (Or.inl rfl)) (pss_cons (ps_if (PW.pt (pw_and (pt_cmpR op_lt (pe_callB (cr_lenk K rfl) rfl bs.len boot_len (pa_cons (pv 3) pa_nil)) (pv 2) (nomark _)) (pw_and1 (pt_cmpR (op_nik K rfl (hu65 hr)) (pv 4) (pv 3) (by with_unfolding_all rfl))))) (pss_cons (ps_expr (pe_bm PySem.F.plainAttrs_list PySem.F.slot_list_append PySem.F.type_list_append mt_append (pv 3) (pa_cons (pv 4) pa_nil)))
    pss_nil) pss_nil)
    pss_nil))
    (pss_cons (ps_ret (pe_callTy (cr_tupk K rfl) rfl bs.tuple boot_tuple (pa_cons (pe_callB (cr_sortIk K rfl) rfl bs.sorted (by decide +kernel) (pa_cons (pv 3) pa_nil)) pa_nil)))
    pss_nil))), runZ nl__law_some fun B st lf ln ds hR zs D hD => ?_⟩
  obtain ⟨d0, n, least, l0, rfl, hn, _⟩ := hR
  show TrR K B _ _ _ [.r st, .d (eI n), .d (eI least), .un, .un] _
  refine q_asgXL (exl_lcR (n := n) zs ⟨by simp [adrs], by simp [noT]⟩ (fun a => ⟨by simp [adrs], by simp [noT]⟩) (ea_cons (ed_var rfl) ea_nil) (by omega) (fun a _ => tk_draw (n := 2) zs ⟨by simp [adrs], by simp [noT]⟩ rfl (by decide) (by decide)) (fun a _ => ed_var rfl)) fun es hes => ?_
  obtain ⟨l, hl, rfl⟩ := hes
  refine ⟨nls_I l, fun p np => ?_⟩
  have hlN : l.Nodup := hl.nodup List.nodup_range
  have hlm : ∀ x ∈ l, x < n := fun x hx => List.mem_range.mp (hl.subset hx)
  show TrR K B _ _ _ [.r st, .d (eI n), .d (eI least), .l p (l.map eI), .un] _
  refine q_forNX (α := Nat) (enc := eI) (ρn := fun ρ a => ρ.set 4 (.d (eI a))) (exl_call (R := R__law_line) (ds := [eI n]) zs ⟨by simp [adrs]; exact np.s, by simp [noT]⟩ rfl (ea_cons (ed_var rfl) ea_nil) ⟨_, n, List.range n, rfl, hn, .refl _, rfl⟩) fun es hes => ?_
  obtain ⟨n', line, he, hn', hperm, rfl⟩ := hes
  obtain rfl := eI_inj (List.cons.inj he).1
  refine ⟨line, rfl, fun _ _ => rfl, fun i ρ => ∃ (acc : Lot) (s : Sl), acc.Nodup ∧ (∀ x ∈ acc, x < n) ∧ (least ≤ acc.length ∨ ∀ x ∈ line.take i, x ∈ acc) ∧ ρ = [.r st, .d (eI n), .d (eI least), .l p (acc.map eI), s], ⟨l, .un, hlN, hlm, .inr (by simp), rfl⟩, fun S' Z' ρ' a _ => gt_name rfl, fun S' Z' zk' q nq hS i a ρ' ha hp => ?_, fun ρ' hp => ?_⟩
  · obtain ⟨acc, s, h1, h2, h3, rfl⟩ := hp
    have han : a < n := List.mem_range.mp (hperm.subset (List.mem_of_getElem? ha))
    have hal : acc.length ≤ n := by
      have := nodup_len h1 (fun x hx => List.mem_range.mpr (h2 x hx))
      rw [List.length_range] at this; exact this
    show TrR K B S' Z' _ [.r st, .d (eI n), .d (eI least), .l p (acc.map eI), .d (eI a)] _
    refine q_if (b := decide (acc.length < least) && decide (a ∉ acc)) (et_and (et_test (ed_ltN (ed_lenL (ed_varL rfl) (by simp)) (ed_var rfl))) fun _ => et_test (ed_is (ed_op (ed_var rfl) (ed_varL rfl) (rd_niL (sh_I a) (sh_Is acc))) (by rw [any_I]; simp))) (fun h => ?_) (fun h => ?_)
    · have hac : acc.length < least ∧ a ∉ acc := by simpa using h
      refine q_app (p := p) rfl (ed_var rfl) rfl np.b (fun h => (hS p h).elim np.s fun e => nq.a p (by simp [adrs]) e) (by simp; omega) (by simp [putL]; rfl) (q_next (q_lf ⟨acc ++ [a], .d (eI a), ?_, ?_, ?_, by simp⟩))
      · exact List.nodup_append.mpr ⟨h1, by simp, by intro x hx y hy e; rw [List.mem_singleton.mp hy] at e; exact hac.2 (e ▸ hx)⟩
      · intro x hx
        rcases List.mem_append.mp hx with hx | hx
        · exact h2 x hx
        · rw [List.mem_singleton.mp hx]; exact han
      · rcases h3 with h3 | h3
        · exact absurd h3 (by omega)
        · refine .inr fun x hx => ?_
          rw [List.take_add_one, ha] at hx
          rcases List.mem_append.mp hx with hx | hx
          · exact List.mem_append_left _ (h3 x hx)
          · exact List.mem_append_right _ (by simpa using hx)
    · refine q_next (q_next (q_lf ⟨acc, .d (eI a), h1, h2, ?_, rfl⟩))
      rcases h3 with h3 | h3
      · exact .inl h3
      · by_cases hl : least ≤ acc.length
        · exact .inl hl
        · refine .inr fun x hx => ?_
          have hin : a ∈ acc := by
            have h : (decide (acc.length < least) && decide (a ∉ acc)) = false := h
            simp at h
            exact h (by omega)
          rw [List.take_add_one, ha] at hx
          rcases List.mem_append.mp hx with hx | hx
          · exact h3 x hx
          · have : x = a := by simpa using hx
            rw [this]; exact hin
  · obtain ⟨acc, s, h1, h2, h3, rfl⟩ := hp
    rw [List.take_length] at h3
    have hlen : (sortN acc).length = acc.length := (sortN_perm acc).length_eq
    refine q_ret (d := eLot (sortN acc)) (ed_cb (ea_cons (ed_L (el_is (el_cb (xs := [.list ((acc.map fun x : Nat => (x : Int)).map PyData.int)]) (ea_cons (ed_is (ed_varL rfl) (by rw [List.map_map]; rfl)) ea_nil) rl_sortI) (by rw [sortI_N, ← map_eI]))) ea_nil) rc_tupL) fun v H' e z h => hD _ v H' ⟨n, least, sortN acc, rfl, hn, sortN_lt h1, fun x hx => h2 x ((sortN_perm acc).subset hx), ?_, rfl⟩ e z h
    rw [hlen]
    rcases h3 with h3 | h3
    · exact .inl h3
    · right
      have h4 : line.Nodup := hperm.nodup_iff.mpr List.nodup_range
      have := nodup_len h4 (fun x hx => h3 x hx)
      rw [hperm.length_eq, List.length_range] at this
      exact this
end
end Fk
/-! trees as lists of nests; how they are drawn -/
namespace Fk
open PySem PySem.Spec
abbrev StrictL (l : Lot) : Prop := l.Pairwise (· < ·)
structure Tree (n : Nat) (ns : List Lot) : Prop where
  sorted : ns.Pairwise (fun a b => rankLe a b = true)
  nodup : ns.Nodup
  mem : ∀ l ∈ ns, StrictL l ∧ (∀ x ∈ l, x < n) ∧ 2 ≤ l.length
  lam : ∀ a ∈ ns, ∀ b ∈ ns, crossL a b = false
  whole : 2 ≤ n → List.range n ∈ ns
theorem strict_nodup {l : Lot} (h : StrictL l) : l.Nodup := h.imp fun h => by omega
theorem strict_ext {a b : Lot} (ha : StrictL a) (hb : StrictL b) (h : ∀ x, x ∈ a ↔ x ∈ b) : a = b :=
  List.Perm.eq_of_pairwise (le := fun a b => a ≤ b) (by intro a b _ _ h1 h2; omega) (ha.imp fun h => by omega) (hb.imp fun h => by omega) ((List.perm_ext_iff_of_nodup (strict_nodup ha) (strict_nodup hb)).mpr h)
theorem range_strict (n : Nat) : StrictL (List.range n) := List.pairwise_lt_range
theorem cross_sub {a b : Lot} (h : ∀ x ∈ a, x ∈ b) : crossL a b = false := by
  unfold crossL
  rw [List.filter_eq_self.mpr (fun x hx => decide_eq_true (h x hx))]
  simp; intro _; omega
theorem cross_sup {a b : Lot} (nb : b.Nodup) (h : ∀ x ∈ b, x ∈ a) : crossL a b = false := by
  unfold crossL
  have := nodup_len nb (b := a.filter fun x => decide (x ∈ b)) (fun x hx => List.mem_filter.mpr ⟨h x hx, decide_eq_true hx⟩)
  simp only [Bool.and_eq_false_iff, decide_eq_false_iff_not]
  right; omega
theorem cross_dis {a b : Lot} (h : ∀ x ∈ a, x ∉ b) : crossL a b = false := by
  unfold crossL
  rw [List.filter_eq_nil_iff.mpr (fun x hx => by simpa using h x hx)]
  simp
/-- between two turns -/
structure TI (n wide : Nat) (ps ns : List Lot) : Prop where
  perm : ps.flatten.Perm (List.range n)
  pst : ∀ p ∈ ps, p ≠ [] ∧ StrictL p
  nst : ∀ m ∈ ns, StrictL m ∧ 2 ≤ m.length
  nd : ns.Nodup
  ins : ∀ m ∈ ns, ∃ p ∈ ps, ∀ x ∈ m, x ∈ p
  lam : ∀ a ∈ ns, ∀ b ∈ ns, crossL a b = false
  big : ∀ p ∈ ps, 2 ≤ p.length → p ∈ ns
  cnt : wide = 2 → ns.length + ps.length = n
  le : ns.length + ps.length ≤ n
/-- in a turn -/
structure LI (n wide : Nat) (lump : Lot) (ps ns : List Lot) (k : Nat) : Prop where
  perm : (lump ++ ps.flatten).Perm (List.range n)
  lne : lump ≠ []
  pst : ∀ p ∈ ps, p ≠ [] ∧ StrictL p
  nst : ∀ m ∈ ns, StrictL m ∧ 2 ≤ m.length
  nd : ns.Nodup
  ins : ∀ m ∈ ns, (∀ x ∈ m, x ∈ lump) ∨ ∃ p ∈ ps, ∀ x ∈ m, x ∈ p
  lam : ∀ a ∈ ns, ∀ b ∈ ns, crossL a b = false
  big : ∀ p ∈ ps, 2 ≤ p.length → p ∈ ns
  new : 0 < k → 2 ≤ lump.length ∧ ∀ m ∈ ns, (∀ x ∈ m, x ∈ lump) → m.length < lump.length
  cnt : wide = 2 → ns.length + ps.length + 1 + k = n
  le : ns.length + ps.length + 1 + k ≤ n
theorem ti_start (n wide : Nat) : TI n wide ((List.range n).map fun x => [x]) [] where
  perm := by
    have : ((List.range n).map fun x => [x]).flatten = List.range n := by
      induction List.range n with
      | nil => rfl
      | cons x l ih => simp only [List.map_cons, List.flatten_cons, ih]; rfl
    rw [this]
  pst := by
    intro p hp
    obtain ⟨x, _, rfl⟩ := List.mem_map.mp hp
    exact ⟨by simp, by simp⟩
  nst := by simp
  nd := .nil
  ins := by simp
  lam := by simp
  big := by
    intro p hp h
    obtain ⟨x, _, rfl⟩ := List.mem_map.mp hp
    simp at h
  cnt := by simp
  le := by simp
theorem erase_flat {ps : List Lot} {k : Nat} {p : Lot} (h : ps[k]? = some p) : ps.flatten.Perm (p ++ (ps.eraseIdx k).flatten) := by
  induction ps generalizing k with
  | nil => simp at h
  | cons q ps ih =>
    cases k with
    | zero => simp at h; subst h; simp
    | succ k =>
      simp at h
      simp only [List.eraseIdx_cons_succ, List.flatten_cons]
      refine ((ih h).append_left q).trans ?_
      rw [← List.append_assoc, ← List.append_assoc]
      exact List.perm_append_comm.append_right _
theorem mem_erase {α : Type} {ps : List α} {k : Nat} {p q : α} (h : ps[k]? = some p) (hq : q ∈ ps) : q = p ∨ q ∈ ps.eraseIdx k := by
  induction ps generalizing k with
  | nil => cases hq
  | cons r ps ih =>
    cases k with
    | zero => simp at h; subst h; simpa using hq
    | succ k =>
      simp at h
      rcases List.mem_cons.mp hq with rfl | hq
      · exact .inr (by simp)
      · rcases ih h hq with h | h
        · exact .inl h
        · exact .inr (by simp [h])
theorem len_erase {α : Type} {ps : List α} {k : Nat} {p : α} (h : ps[k]? = some p) : (ps.eraseIdx k).length + 1 = ps.length := by
  have hk : k < ps.length := (List.getElem?_eq_some_iff.mp h).1
  rw [List.length_eraseIdx, if_pos hk]; omega
theorem ti_pop {n wide : Nat} {ps ns : List Lot} {k : Nat} {p : Lot} (t : TI n wide ps ns) (h : ps[k]? = some p) : LI n wide p (ps.eraseIdx k) ns 0 where
  perm := (erase_flat h).symm.trans t.perm
  lne := (t.pst p (List.mem_of_getElem? h)).1
  pst := fun q hq => t.pst q (List.mem_of_mem_eraseIdx hq)
  nst := t.nst
  nd := t.nd
  ins := fun m hm => by
    obtain ⟨q, hq, hx⟩ := t.ins m hm
    rcases mem_erase h hq with rfl | hq
    · exact .inl hx
    · exact .inr ⟨q, hq, hx⟩
  lam := t.lam
  big := fun q hq => t.big q (List.mem_of_mem_eraseIdx hq)
  new := by simp
  cnt := fun hw => by have := t.cnt hw; have := len_erase h; omega
  le := by have := t.le; have := len_erase h; omega
theorem li_step {n wide : Nat} {lump : Lot} {ps ns : List Lot} {j k : Nat} {p : Lot} (t : LI n wide lump ps ns j) (h : ps[k]? = some p) : LI n wide (lump ++ p) (ps.eraseIdx k) ns (j + 1) where
  perm := by
    refine List.Perm.trans ?_ t.perm
    rw [List.append_assoc]
    exact (erase_flat h).symm.append_left lump
  lne := by simp [t.lne]
  pst := fun q hq => t.pst q (List.mem_of_mem_eraseIdx hq)
  nst := t.nst
  nd := t.nd
  ins := fun m hm => by
    rcases t.ins m hm with hx | ⟨q, hq, hx⟩
    · exact .inl fun x h => List.mem_append_left _ (hx x h)
    · rcases mem_erase h hq with rfl | hq
      · exact .inl fun x h => List.mem_append_right _ (hx x h)
      · exact .inr ⟨q, hq, hx⟩
  lam := t.lam
  big := fun q hq => t.big q (List.mem_of_mem_eraseIdx hq)
  new := fun _ => by
    have hp := (t.pst p (List.mem_of_getElem? h)).1
    have l1 := List.length_pos_iff.mpr hp
    have l2 := List.length_pos_iff.mpr t.lne
    refine ⟨by rw [List.length_append]; omega, fun m hm hx => ?_⟩
    rw [List.length_append]
    have hmn := strict_nodup (t.nst m hm).1
    rcases t.ins m hm with hx | ⟨q, hq, hx2⟩
    · have := nodup_len hmn hx; omega
    · rcases mem_erase h hq with rfl | hq
      · have := nodup_len hmn hx2; omega
      · exfalso
        have nd : (lump ++ ps.flatten).Nodup := t.perm.nodup_iff.mpr List.nodup_range
        have nd2 : ((lump ++ p) ++ (ps.eraseIdx k).flatten).Nodup := by
          rw [List.append_assoc]
          exact ((erase_flat h).append_left lump).nodup_iff.mp nd
        obtain ⟨x, hxm⟩ := List.exists_mem_of_length_pos (show 0 < m.length by have := (t.nst m hm).2; omega)
        exact (List.nodup_append.mp nd2).2.2 x (hx x hxm) x (List.mem_flatten.mpr ⟨q, hq, hx2 x hxm⟩) rfl
  cnt := fun hw => by have := t.cnt hw; have := len_erase h; omega
  le := by have := t.le; have := len_erase h; omega
theorem sortN_mem {l : Lot} {x : Nat} : x ∈ sortN l ↔ x ∈ l := (sortN_perm l).mem_iff
theorem li_end {n wide : Nat} {lump : Lot} {ps ns : List Lot} {k : Nat} (t : LI n wide lump ps ns k) (hk : 0 < k) (hw : wide = 2 → k = 1) : TI n wide (ps ++ [sortN lump]) (ns ++ [sortN lump]) := by
  have nd : (lump ++ ps.flatten).Nodup := t.perm.nodup_iff.mpr List.nodup_range
  have nl : lump.Nodup := (List.nodup_append.mp nd).1
  have hs : StrictL (sortN lump) := sortN_lt nl
  have hl : (sortN lump).length = lump.length := (sortN_perm lump).length_eq
  have side : ∀ m ∈ ns, (∀ x ∈ m, x ∈ sortN lump) ∨ ∀ x ∈ m, x ∉ sortN lump := fun m hm => by
    rcases t.ins m hm with h | ⟨p, hp, h⟩
    · exact .inl fun x hx => sortN_mem.mpr (h x hx)
    · refine .inr fun x hx hx2 => ?_
      exact (List.nodup_append.mp nd).2.2 x (sortN_mem.mp hx2) x (List.mem_flatten.mpr ⟨p, hp, h x hx⟩) rfl
  have cr1 : ∀ m ∈ ns, crossL m (sortN lump) = false := fun m hm => (side m hm).elim cross_sub cross_dis
  have cr2 : ∀ m ∈ ns, crossL (sortN lump) m = false := fun m hm => (side m hm).elim (cross_sup (strict_nodup (t.nst m hm).1)) fun h => cross_dis fun x hx hm => h x hm hx
  refine ⟨?_, ?_, ?_, ?_, ?_, ?_, ?_, ?_, ?_⟩
  · rw [List.flatten_append]
    simp only [List.flatten_cons, List.flatten_nil, List.append_nil]
    exact (List.perm_append_comm.trans ((sortN_perm lump).append_right _)).trans t.perm
  · intro p hp
    rcases List.mem_append.mp hp with hp | hp
    · exact t.pst p hp
    · rw [List.mem_singleton.mp hp]
      refine ⟨fun e => t.lne (List.length_eq_zero_iff.mp ?_), hs⟩
      rw [← hl, e]; rfl
  · intro m hm
    rcases List.mem_append.mp hm with hm | hm
    · exact t.nst m hm
    · rw [List.mem_singleton.mp hm, hl]; exact ⟨hs, (t.new hk).1⟩
  · refine List.nodup_append.mpr ⟨t.nd, by simp, ?_⟩
    intro m hm b hb e
    rw [List.mem_singleton.mp hb] at e
    have := (t.new hk).2 m hm (fun x hx => by rw [e] at hx; exact sortN_mem.mp hx)
    rw [e, hl] at this; omega
  · intro m hm
    rcases List.mem_append.mp hm with hm | hm
    · rcases t.ins m hm with h | ⟨p, hp, h⟩
      · exact ⟨sortN lump, by simp, fun x hx => sortN_mem.mpr (h x hx)⟩
      · exact ⟨p, by simp [hp], h⟩
    · rw [List.mem_singleton.mp hm]; exact ⟨sortN lump, by simp, fun x hx => hx⟩
  · intro a ha b hb
    rcases List.mem_append.mp ha with ha | ha
    · rcases List.mem_append.mp hb with hb | hb
      · exact t.lam a ha b hb
      · rw [List.mem_singleton.mp hb]; exact cr1 a ha
    · rw [List.mem_singleton.mp ha]
      rcases List.mem_append.mp hb with hb | hb
      · exact cr2 b hb
      · rw [List.mem_singleton.mp hb]; exact cross_sub fun x hx => hx
  · intro p hp h2
    rcases List.mem_append.mp hp with hp | hp
    · exact List.mem_append_left _ (t.big p hp h2)
    · exact List.mem_append_right _ hp
  · intro h
    have := t.cnt h
    have := hw h
    simp
    omega
  · have := t.le
    simp
    omega
theorem ti_tree {n wide : Nat} {ps ns : List Lot} (t : TI n wide ps ns) (hp : ps.length ≤ 1) : Tree n (sortL ns) := by
  have hm : ∀ m ∈ ns, ∀ x ∈ m, x < n := fun m hm x hx => by
    obtain ⟨p, hp, h⟩ := t.ins m hm
    exact List.mem_range.mp (t.perm.subset (List.mem_flatten.mpr ⟨p, hp, h x hx⟩))
  refine ⟨isort_sorted rank_tr rank_tot ns, (isort_perm _ _).nodup_iff.mpr t.nd, fun l hl => ?_, fun a ha b hb => t.lam a (sortL_mem.mp ha) b (sortL_mem.mp hb), fun h => sortL_mem.mpr ?_⟩
  · have hl := sortL_mem.mp hl
    exact ⟨(t.nst l hl).1, hm l hl, (t.nst l hl).2⟩
  · match ps, hp with
    | [], _ =>
      have := t.perm.length_eq
      simp at this; omega
    | [p], _ =>
      have hpm : p.Perm (List.range n) := by simpa using t.perm
      have e : p = List.range n := strict_ext (t.pst p (by simp)).2 (range_strict n) fun x => hpm.mem_iff
      have := t.big p (by simp) (by rw [hpm.length_eq, List.length_range]; exact h)
      rwa [e] at this
theorem sortL_len (l : List Lot) : (sortL l).length = l.length := (isort_perm _ _).length_eq
end Fk
/-! the walks, 18: a drawn tree -/
namespace Fk
open PySem PySem.Spec PyProof.Rows L2
def Pl : Sl → Prop
  | .un => True
  | .d _ => True
  | _ => False
theorem adrs_pl {s : Sl} {ρ : List Sl} (h : Pl s) : adrs (s :: ρ) = adrs ρ := by
  cases s <;> first | rfl | exact h.elim
theorem noT_pl {s : Sl} {ρ : List Sl} (h : Pl s) : noT (s :: ρ) = noT ρ := by
  cases s <;> first | rfl | exact h.elim
theorem put_d {d : PyData} {s' : Sl} {p : Addr} : putL p s' (.d d) = .d d := rfl
theorem put_r {q : Addr} {s' : Sl} {p : Addr} : putL p s' (.r q) = .r q := rfl
theorem put_un {s' : Sl} {p : Addr} : putL p s' .un = .un := rfl
theorem put_eq {ds : List PyData} {s' : Sl} {p : Addr} : putL p s' (.l p ds) = s' := if_pos rfl
theorem put_ne {ds : List PyData} {s' : Sl} {p q : Addr} (h : q ≠ p) : putL p s' (.l q ds) = .l q ds := if_neg h
theorem len_flat {c : Lot} : ∀ {ps : List Lot}, c ∈ ps → c.length ≤ ps.flatten.length
  | q :: ps, h => by
    rw [List.flatten_cons, List.length_append]
    rcases List.mem_cons.mp h with rfl | h
    · omega
    · have := len_flat h; omega
theorem put_pl {s s' : Sl} {p : Addr} (h : Pl s) : putL p s' s = s := by
  cases s <;> first | rfl | exact h.elim
section
variable {P : Program} {w : World} {K : PySem.W.Frag} {mg : Str → Option Value} {base : Heap}
def R__law_tree (ds : List PyData) (d : PyData) : Prop := ∃ (n wide : Nat) (ns : List Lot), ds = [eI n, eI wide] ∧ 0 < n ∧ n ≤ 9 ∧ 2 ≤ wide ∧ Tree n ns ∧ (wide = 2 → ns.length + 1 = n) ∧ d = eTree n ns
abbrev sp__law_tree (K : PySem.W.Frag) : Sp := spZ K R__law_tree
theorem len__law_tree : ∀ ds es, R__law_tree ds es → ds.length + 1 = 3 := by rintro ds d ⟨n, least, l, rfl, _⟩; rfl
theorem nl__law_tree : ∀ ds es, R__law_tree ds es → noLs ds = true := by rintro ds d ⟨n, least, l, rfl, _⟩; rfl
theorem flat_len {ps : List Lot} (h : ∀ p ∈ ps, p ≠ []) : ps.length ≤ ps.flatten.length := by
  induction ps with
  | nil => simp
  | cons p ps ih =>
    have h1 := List.length_pos_iff.mpr (h p (by simp))
    have h2 := ih fun q hq => h q (by simp [hq])
    rw [List.flatten_cons, List.length_append, List.length_cons]
    omega
theorem TI.len {n wide : Nat} {ps ns : List Lot} (t : TI n wide ps ns) : ps.length ≤ n := by
  have := flat_len (fun p hp => (t.pst p hp).1)
  rw [t.perm.length_eq, List.length_range] at this
  exact this
theorem LI.lens {n wide : Nat} {lump : Lot} {ps ns : List Lot} {k : Nat} (t : LI n wide lump ps ns k) : lump.length + ps.length ≤ n := by
  have := flat_len (fun p hp => (t.pst p hp).1)
  have h2 := t.perm.length_eq
  rw [List.length_append, List.length_range] at h2
  omega
variable {B : Hp} {S : Addr → Prop} {Z : Hp → Prop} {ρ : List Sl} {te : TE} {st lf ln : Addr} [zk : ZK S Z]
theorem draw_of {n : Nat} {d : PyData} (h : R__law_draw [eI n] d) : ∃ r, r < n ∧ d = eI r := by
  obtain ⟨m, r, he, _, _, hr, rfl⟩ := h
  obtain rfl := eI_inj (List.cons.inj he).1
  exact ⟨r, hr, rfl⟩
theorem ex_draw {i : Nat} {n : Nat} {E : XK} {Po : PyData → List Sl → Prop} (zs : ZS st lf ln S Z B) (hi : ρ[i]? = some (.r st)) (h : EvD K B te ρ (eI n)) (h0 : 0 < n) (h1 : n < 1000000) (fa : ∀ q ∈ adrs ρ, ¬ S q) (ft : noT ρ = true) (hp : ∀ r, r < n → Po (eI r) ρ) :
    EvX K B S Z (tCall (spZ K R__law_draw) [] E (tCons (tVar i) (tCons te tNil))) ρ Po :=
  ex_w (ex_call (R := R__law_draw) (ds := [eI n]) zs ⟨fa, ft⟩ hi (ea_cons h ea_nil) ⟨eI 0, n, 0, rfl, h0, h1, h0, rfl⟩) fun d ρ' ⟨hd, e⟩ => by
    obtain ⟨r, hr, rfl⟩ := draw_of hd
    rw [e]; exact hp r hr
theorem perm_range_len {n : Nat} {l : Lot} (h : l.Perm (List.range n)) : l.length = n := by rw [h.length_eq, List.length_range]
end
section
variable {K : PySem.W.Frag} {B : Hp} {S : Addr → Prop} {Z : Hp → Prop} {ρ : List Sl} {ta tb : TE} {tz : TS} {D : Ends} {st lf ln : Addr} {ds es : List PyData} [zk : ZK S Z]
theorem q_par3T {i i1 i2 i3 n : Nat} {E : XK} (zs : ZS st lf ln S Z B) (hi : ρ[i]? = some (.r st)) (h1 : EvL K B ta ρ ds) (h2 : EvL K B tb ρ es) (n1 : noLs ds = true) (n2 : noLs es = true) (h0 : 0 < n) (hn : n < 1000000) (fa : ∀ q ∈ adrs ρ, ¬ S q) (ft : noT ρ = true)
    (k : ∀ p q, New B S ρ p → New B S ρ q → p ≠ q → ∀ b : Bool, TrR K B S Z tz (((ρ.set i1 (.l p ds)).set i2 (.l q es)).set i3 (.d (.bool b))) D) :
    TrR K B S Z (tSeq (tPar3 i1 i2 i3 (tCons ta (tCons tb (tCons (tOp (rEqD K) (tCall (spZ K R__law_draw) [] E (tCons (tVar i) (tCons (tC (.int (n : Nat))) tNil))) (tC (.int 0))) tNil)))) tz) ρ D := fun σ H a => by
  refine h1 σ H a.eb a.ok _ fun p vs H1 e1 hp k1 k2 => ?_
  have a1 := a.ex e1
  refine h2 σ H1 a1.eb a1.ok _ fun q ws H2 e2 hq k3 k4 => ?_
  have a2 := a1.ex e2
  have np := a.new hp
  have nq := a1.new hq
  have hpq : p ≠ q := fun z => by rw [z, hq] at k1; cases k1
  refine ⟨_, a2.ok.r hi, ?_⟩
  refine ⟨st, lf, ln, [.int (n : Int)], [eI n], rfl, zs.get a2.z, .cons (.int _) .nil, ⟨eI 0, n, 0, rfl, h0, hn, h0, rfl⟩, ?_⟩
  intro d hd v H3 kp z hv
  obtain ⟨r, hr, rfl⟩ := draw_of hd
  obtain rfl := dp_int hv
  have a3 := a2.kp zs ⟨fa, ft⟩ kp z
  have tx := kp.tx (zs.get a2.z)
  refine ⟨.int (r : Int), .int 0, .int _, .int _, shaped_int _, shaped_int _, _, _, _, rfl, ?_⟩
  refine k p q np nq hpq _ _ _ (((a3.set (i := i1) (s := .l p ds) ⟨rfl, vs, kp p _ (e2 _ _ k1) fun h => np.s (zs.sub p h), dps_tx tx _ _ n1 (dps_ex e2 _ _ k2), n1⟩).set (i := i2) (s := .l q es) ⟨rfl, ws, kp q _ k3 fun h => nq.s (zs.sub q h), dps_tx tx _ _ n2 k4, n2⟩).set (i := i3) (s := .d (.bool _)) ⟨_, rfl, .inr ⟨rfl, .bl _⟩⟩)
end
section
variable {P : Program} {w : World} {K : PySem.W.Frag} {mg : Str → Option Value} {base : Heap}
-- slots: _law_store_here:0 _law_size:1 _law_wide:2 _law_turn:3 _law_pieces:4 _law_nests:5 _law_is_line:6 _law_first:7 _law_lump:8 _law_step:9 _law_leaf:10  level 4
abbrev N__law_tree : List Str := ["_law_store_here", "_law_size", "_law_wide", "_law_turn", "_law_pieces", "_law_nests", "_law_is_line", "_law_first", "_law_lump", "_law_step", "_law_leaf"]
theorem sc__law_tree : FnScope N__law_tree ["_law_store_here", "_law_size", "_law_wide"] (defScope s__law_tree) := ⟨rfl, rfl, rfl, by decide +kernel, rfl, by decide +kernel, by decide +kernel⟩
theorem bd__law_tree : BindsBy "_law_tree" s__law_tree ["_law_store_here", "_law_size", "_law_wide"] := fun _ _ _ _ _ _ us hl => match us, hl with | [_, _, _], _ => rfl
theorem ok__law_tree (F : Here K mg "_law_tree" s__law_tree) (bs : Bs mg) (h__law_draw : Ok P w K mg base 1 "_law_draw" ["_law_store_here", "_law_size"] (sp__law_draw K)) (h__law_rank : OkP P w K mg base 1 "_law_rank" ["_law_own"] (sp__law_rank K)) : Ok P w K mg base 4 "_law_tree" ["_law_store_here", "_law_size", "_law_wide"] (sp__law_tree K) := by
  have nd := sc__law_tree.nd
  refine mkG F sc__law_tree bd__law_tree (lenZ len__law_tree) fun f cdv A outer s H E hg hr => ⟨_, (pss_cons (ps_par3 (i := 4) (j := 5) (l := 6) rfl nd rfl rfl rfl (by decide) (by decide) (by decide) rfl rfl rfl (pa_cons (pe_lc (own := [("_law_leaf", 10)]) rfl nd (pi_range1 rfl bs.range (pa_cons (pv 1) pa_nil)) (blk1 rfl rfl rfl rfl rfl) (fun _ _ _ _ _ => pg_name (i := 10) nd rfl (by first | exact Or.inl rfl | exact Or.inr rfl)) (fun _ _ _ _ _ => pts_nil) (fun _ _ _ _ _ => (pe_tup (pa_cons (pv 10) pa_nil)))) (pa_cons (pe_lst pa_nil) (pa_cons (pe_cmpR (op_eqk K rfl hr.units) (pe_callN h__law_draw hg (hr.mono (by decide)) rfl (pa_cons (pv 0) (pa_cons pe_int pa_nil))) pe_int (nomark _)) pa_nil))) rfl)
    (pss_cons (ps_for PassesOwn.never rfl (pi_range1 rfl bs.range (pa_cons (pv 1) pa_nil)) (pg_name (i := 3) nd rfl (Or.inl rfl)) (pss_cons (ps_if (pt_cmpR op_gt (pe_callB (cr_lenk K rfl) rfl bs.len boot_len (pa_cons (pv 4) pa_nil)) pe_int (nomark _)) (pss_cons (ps_set (i := 7) nd rfl (Or.inl rfl) (pe_callN h__law_draw hg (hr.mono (by decide)) rfl (pa_cons (pv 0) (pa_cons (pe_callB (cr_lenk K rfl) rfl bs.len boot_len (pa_cons (pv 4) pa_nil)) pa_nil))))
    (pss_cons (ps_set (i := 8) nd rfl (Or.inl rfl) (pe_bm PySem.F.plainAttrs_list PySem.F.slot_list_pop PySem.F.type_list_pop mt_popAt (pv 4) (pa_cons (pe_ifExp (PW.pt (pw_and (pt_val (pv 6)) (pw_and1 (pt_cmpR (op_nek K rfl hr.units) (pv 5) (pe_lst pa_nil) (nomark _))))) (pe_op op_sub (pe_callB (cr_lenk K rfl) rfl bs.len boot_len (pa_cons (pv 4) pa_nil)) pe_int) (pv 7)) pa_nil)))
    (pss_cons (ps_for PassesOwn.never rfl (pi_range1 rfl bs.range (pa_cons (pe_op op_add pe_int (pe_callN h__law_draw hg (hr.mono (by decide)) rfl (pa_cons (pv 0) (pa_cons (pe_op op_sub (pe_callB (cr_min2 rfl) rfl bs.min (by decide +kernel) (pa_cons (pv 2) (pa_cons (pe_op op_add (pe_callB (cr_lenk K rfl) rfl bs.len boot_len (pa_cons (pv 4) pa_nil)) pe_int) pa_nil))) pe_int) pa_nil)))) pa_nil)) (pg_name (i := 9) nd rfl (Or.inl rfl)) (pss_cons (ps_set (i := 8) nd rfl (Or.inl rfl) (pe_op (op_catk K rfl) (pv 8) (pe_bm PySem.F.plainAttrs_list PySem.F.slot_list_pop PySem.F.type_list_pop mt_popAt (pv 4) (pa_cons (pe_callN h__law_draw hg (hr.mono (by decide)) rfl (pa_cons (pv 0) (pa_cons (pe_callB (cr_lenk K rfl) rfl bs.len boot_len (pa_cons (pv 4) pa_nil)) pa_nil))) pa_nil))))
    pss_nil))
    (pss_cons (ps_set (i := 8) nd rfl (Or.inl rfl) (pe_callTy (cr_tupk K rfl) rfl bs.tuple boot_tuple (pa_cons (pe_callB (cr_sortTk K rfl) rfl bs.sorted (by decide +kernel) (pa_cons (pv 8) pa_nil)) pa_nil)))
    (pss_cons (ps_expr (pe_bm PySem.F.plainAttrs_list PySem.F.slot_list_append PySem.F.type_list_append mt_append (pv 4) (pa_cons (pv 8) pa_nil)))
    (pss_cons (ps_expr (pe_bm PySem.F.plainAttrs_list PySem.F.slot_list_append PySem.F.type_list_append mt_append (pv 5) (pa_cons (pv 8) pa_nil)))
    pss_nil)))))) pss_nil)
    pss_nil))
    (pss_cons (ps_ret (pe_tup (pa_cons (pv 1) (pa_cons (pe_callTy (cr_tupk K rfl) rfl bs.tuple boot_tuple (pa_cons (pe_sortK h__law_rank (hr.mono (by decide)) rfl bs.sorted rfl (pa_cons (pv 5) pa_nil)) pa_nil)) pa_nil))))
    pss_nil))), runZ nl__law_tree fun B st lf ln ds hR zs D hD => ?_⟩
  obtain ⟨d0, n, wide, _, rfl, hn0, hn, hw, _⟩ := hR
  show TrR K B _ _ _ [.r st, .d (eI n), .d (eI wide), .un, .un, .un, .un, .un, .un, .un, .un] _
  refine q_par3T (ds := ((List.range n).map fun x => [x]).map eLot) (es := ([] : List Lot).map eLot) (n := 3) zs rfl (el_is (el_lcR' (n := n) (f := fun x => eLot [x]) (ea_cons (ed_var rfl) ea_nil) (by omega) (fun a _ => ed_tup (ea_cons (ed_var rfl) ea_nil) (by simp)) fun _ _ => nl_Lot _) (by rw [List.map_map]; rfl)) (el_lst ea_nil (by simp)) (nls_Lot _) rfl (by decide) (by decide) (by simp [adrs]) (by simp [noT]) fun p q np nq hpq isl => ?_
  refine q_forR (n := n) (j := 3) (ea_cons (ed_var rfl) ea_nil) (by omega) (fun i ρ => ∃ (ps ns : List Lot) (s3 s7 s8 s9 : Sl), TI n wide ps ns ∧ (ps.length ≤ n - i ∨ ps.length ≤ 1) ∧ (Pl s3 ∧ Pl s7 ∧ Pl s8 ∧ Pl s9) ∧ ρ = [.r st, .d (eI n), .d (eI wide), s3, .l p (ps.map eLot), .l q (ns.map eLot), .d (.bool isl), s7, s8, s9, .un]) ⟨_, _, .un, .un, .un, .un, ti_start n wide, .inl (by simp), ⟨trivial, trivial, trivial, trivial⟩, rfl⟩ (fun i ρ' hi hp => ?_) fun ρ' hp => ?_
  · obtain ⟨ps, ns, s3, s7, s8, s9, ti, hlen, ⟨_, h7, h8, h9⟩, rfl⟩ := hp
    have hpn := ti.len
    show TrR K B _ _ _ [.r st, .d (eI n), .d (eI wide), .d (eI i), .l p (ps.map eLot), .l q (ns.map eLot), .d (.bool isl), s7, s8, s9, .un] _
    refine q_if (b := decide (1 < ps.length)) (et_test (ed_gtN (b := 1) (ed_lenL (ed_varL rfl) (by simp)) ed_int)) (fun h => ?_) (fun h => ?_)
    · have h1 : 1 < ps.length := of_decide_eq_true h
      have notS : ∀ a, a = p ∨ a = q → ¬ StS st lf ln a := fun a h => h.elim (fun e => e ▸ np.s) (fun e => e ▸ nq.s)
      refine q_asgX (Po := fun d ρ' => ∃ r, r < ps.length ∧ d = eI r ∧ ρ' = [.r st, .d (eI n), .d (eI wide), .d (eI i), .l p (ps.map eLot), .l q (ns.map eLot), .d (.bool isl), s7, s8, s9, .un]) (ex_draw zs rfl (ed_lenL (ed_varL rfl) (by simp)) (by omega) (by omega) (by intro a ha; apply notS; simpa [adrs, adrs_pl h7, adrs_pl h8, adrs_pl h9] using ha) (by simp [noT, noT_pl h7, noT_pl h8, noT_pl h9]) fun r hr => ⟨r, hr, rfl, rfl⟩) fun d ρ' hp => ?_
      obtain ⟨r, hr, rfl, rfl⟩ := hp
      refine ⟨rfl, ?_⟩
      show TrR K B _ _ _ [.r st, .d (eI n), .d (eI wide), .d (eI i), .l p (ps.map eLot), .l q (ns.map eLot), .d (.bool isl), .d (eI r), s8, s9, .un] _
      have h10 : Lt10s ns := fun m hm x hx => by
        obtain ⟨b, hb, h⟩ := ti.ins m hm
        have := List.mem_range.mp (ti.perm.subset (List.mem_flatten.mpr ⟨b, hb, h x hx⟩))
        omega
      obtain ⟨bb, hbb⟩ : ∃ bb, EvT K B (tAnd (tB (tVar 6)) (tTest (tOp (rNeD K) (tVar 5) (tLst tNil)))) [.r st, .d (eI n), .d (eI wide), .d (eI i), .l p (ps.map eLot), .l q (ns.map eLot), .d (.bool isl), .d (eI r), s8, s9, .un] bb :=
        ⟨_, et_and (et_B (ed_var rfl)) fun _ => et_test (ed_op (ed_varL rfl) (ed_L (el_lst ea_nil (by simp))) (rd_ne (sh_lots h10) (by decide)))⟩
      obtain ⟨k, hk, hek⟩ : ∃ k, k < ps.length ∧ EvD K B (tIf (tAnd (tB (tVar 6)) (tTest (tOp (rNeD K) (tVar 5) (tLst tNil)))) (tOp (rI0 fun i j => V.int (i - j)) (tCB (Evl.rLenS K) (tCons (tVar 4) tNil)) (tC (V.int 1))) (tVar 7)) [.r st, .d (eI n), .d (eI wide), .d (eI i), .l p (ps.map eLot), .l q (ns.map eLot), .d (.bool isl), .d (eI r), s8, s9, .un] (eI k) := by
        cases bb with
        | true => exact ⟨ps.length - 1, by omega, ed_if hbb (fun _ => ed_is (ed_op (ed_lenL (n := ps.length) (ed_varL rfl) (by simp)) ed_int rd_sub) (by show PyData.int _ = PyData.int _; congr 1; omega)) fun z => nomatch z⟩
        | false => exact ⟨r, hr, ed_if hbb (fun z => nomatch z) fun _ => ed_var rfl⟩
      obtain ⟨c, hc⟩ : ∃ c, ps[k]? = some c := ⟨_, List.getElem?_eq_getElem hk⟩
      refine q_asgX (Po := fun d ρ' => d = eLot c ∧ ρ' = [.r st, .d (eI n), .d (eI wide), .d (eI i), .l p ((ps.eraseIdx k).map eLot), .l q (ns.map eLot), .d (.bool isl), .d (eI r), s8, s9, .un]) (ex_pop (p := p) (es0 := ps.map eLot) (Pi := fun d ρ' => d = eI k ∧ ρ' = [.r st, .d (eI n), .d (eI wide), .d (eI i), .l p (ps.map eLot), .l q (ns.map eLot), .d (.bool isl), .d (eI r), s8, s9, .un]) rfl (ex_d hek) np.b np.s ?_) fun d ρ' hp => ?_
      · rintro d ρ' ⟨rfl, rfl⟩
        refine ⟨ps.map eLot, k, eLot c, rfl, rfl, by rw [List.getElem?_map, hc]; rfl, by rw [List.length_map]; omega, rfl, ?_⟩
        simp only [List.map_cons, List.map_nil, put_r, put_d, put_un, put_eq, put_ne hpq.symm, put_pl h8, put_pl h9, erase_map]
      obtain ⟨rfl, rfl⟩ := hp
      refine ⟨nl_Lot c, ?_⟩
      show TrR K B _ _ _ [.r st, .d (eI n), .d (eI wide), .d (eI i), .l p ((ps.eraseIdx k).map eLot), .l q (ns.map eLot), .d (.bool isl), .d (eI r), .d (eLot c), s9, .un] _
      have li0 := ti_pop ti hc
      have hL := len_erase hc
      generalize hps : ps.eraseIdx k = ps0 at li0 hL
      have hL1 : 1 ≤ ps0.length := by omega
      refine q_forRX (Pa := fun ds ρ' => ∃ m : Nat, ds = [.int (m : Int)] ∧ 1 ≤ m ∧ m ≤ min wide (ps0.length + 1) - 1 ∧ ρ' = [.r st, .d (eI n), .d (eI wide), .d (eI i), .l p (ps0.map eLot), .l q (ns.map eLot), .d (.bool isl), .d (eI r), .d (eLot c), s9, .un]) (ax_cons (Pa := fun d ρ' => ∃ m : Nat, d = .int (m : Int) ∧ 1 ≤ m ∧ m ≤ min wide (ps0.length + 1) - 1 ∧ ρ' = [.r st, .d (eI n), .d (eI wide), .d (eI i), .l p (ps0.map eLot), .l q (ns.map eLot), .d (.bool isl), .d (eI r), .d (eLot c), s9, .un]) (ex_bin (ex_d ed_int) (by rintro d ρ' ⟨rfl, _⟩; rfl) ?_) ?_ ?_) (fun m j ρ => ∃ (lump : Lot) (ps1 : List Lot) (s : Sl), LI n wide lump ps1 ns j ∧ ps1.length + j = ps0.length ∧ 1 ≤ m ∧ m ≤ min wide (ps0.length + 1) - 1 ∧ Pl s ∧ ρ = [.r st, .d (eI n), .d (eI wide), .d (eI i), .l p (ps1.map eLot), .l q (ns.map eLot), .d (.bool isl), .d (eI r), .d (eLot lump), s, .un]) ?_ ?_ ?_
      · rintro d ρ' ⟨rfl, rfl⟩
        refine ex_draw (n := min wide (ps0.length + 1) - 1) zs rfl (ed_is (ed_op (ed_cb (ea_cons (d := .int (wide : Int)) (ed_var rfl) (ea_cons (ed_addN (a := ps0.length) (b := 1) (ed_lenL (ed_varL rfl) (by simp)) ed_int) ea_nil)) rc_min2) ed_int rd_sub) (by show PyData.int _ = PyData.int _; congr 1; omega)) (by omega) (by omega) (by intro a ha; apply notS; simpa [adrs, adrs_pl h9] using ha) (by simp [noT, noT_pl h9]) fun r' hr' => ⟨_, rd_add, r' + 1, by show PyData.int _ = PyData.int _; congr 1; omega, by omega, by omega, rfl⟩
      · rintro d ρ' ⟨m, rfl, _⟩; rfl
      · rintro d ρ' ⟨m, rfl, h1, h2, rfl⟩ σ H a Q q
        exact ax_a ea_nil σ H a Q fun vs H2 ds ρ2 p2 => q vs H2 ds ρ2 (by obtain ⟨rfl, rfl⟩ := p2; exact ⟨m, rfl, h1, h2, rfl⟩)
      · rintro ds ρ' ⟨m, rfl, h1, h2, rfl⟩
        exact ⟨m, rfl, by omega, c, ps0, s9, li0, rfl, h1, h2, h9, rfl⟩
      · rintro m j ρ' hj ⟨lump, ps1, s, li, hl, hm1, hm2, hs, rfl⟩
        have hlens := li.lens
        show TrR K B _ _ _ [.r st, .d (eI n), .d (eI wide), .d (eI i), .l p (ps1.map eLot), .l q (ns.map eLot), .d (.bool isl), .d (eI r), .d (eLot lump), .d (eI j), .un] _
        refine q_asgX (Po := fun d ρ' => ∃ k c, ps1[k]? = some c ∧ d = eLot (lump ++ c) ∧ ρ' = [.r st, .d (eI n), .d (eI wide), .d (eI i), .l p ((ps1.eraseIdx k).map eLot), .l q (ns.map eLot), .d (.bool isl), .d (eI r), .d (eLot lump), .d (eI j), .un]) (ex_bin (ex_d (ed_var (d := eLot lump) rfl)) (by rintro d ρ' ⟨rfl, _⟩; exact nl_Lot _) ?_) fun d ρ' hp => ?_
        · rintro d ρ' ⟨rfl, rfl⟩
          refine ex_pop (p := p) (es0 := ps1.map eLot) (Pi := fun d ρ' => ∃ r', r' < ps1.length ∧ d = eI r' ∧ ρ' = [.r st, .d (eI n), .d (eI wide), .d (eI i), .l p (ps1.map eLot), .l q (ns.map eLot), .d (.bool isl), .d (eI r), .d (eLot lump), .d (eI j), .un]) rfl (ex_draw zs rfl (ed_lenL (ed_varL rfl) (by simp)) (by omega) (by omega) (by intro a ha; apply notS; simpa [adrs] using ha) (by simp [noT]) fun r' hr' => ⟨r', hr', rfl, rfl⟩) np.b np.s ?_
          rintro d ρ' ⟨r', hr', rfl, rfl⟩
          refine ⟨ps1.map eLot, r', eLot ps1[r'], rfl, rfl, by rw [List.getElem?_map, List.getElem?_eq_getElem hr']; rfl, by rw [List.length_map]; omega, eLot (lump ++ ps1[r']), ?_, r', ps1[r'], List.getElem?_eq_getElem hr', rfl, ?_⟩
          · have e : eLot (lump ++ ps1[r']) = .tuple (lump.map eI ++ ps1[r'].map eI) := by simp [eLot]
            rw [e]
            refine rd_catT ?_
            have h1 : ps1[r'].length ≤ ps1.flatten.length := len_flat (List.getElem_mem hr')
            have h2 := perm_range_len li.perm
            rw [List.length_append] at h2
            simp
            omega
          · simp [putL, hpq.symm]
            exact erase_map
        · obtain ⟨k', c', hk', rfl, rfl⟩ := hp
          exact ⟨nl_Lot _, q_lf ⟨lump ++ c', ps1.eraseIdx k', .d (eI j), li_step li hk', by have := len_erase hk'; omega, hm1, hm2, trivial, rfl⟩⟩
      · rintro m ρ' ⟨lump, ps1, s, li, hl, hm1, hm2, hs, rfl⟩
        have hlens := li.lens
        refine q_asg (d := eLot (sortN lump)) (ed_cb (ea_cons (ed_L (el_is (el_sortTI (ns := lump.map fun x : Nat => (x : Int)) (ed_is (ed_var rfl) (show eLot lump = _ by unfold eLot; rw [List.map_map]; rfl))) (by rw [sortI_N, ← map_eI]))) ea_nil) rc_tupL) (nl_Lot _) ?_
        show TrR K B _ _ _ [.r st, .d (eI n), .d (eI wide), .d (eI i), .l p (ps1.map eLot), .l q (ns.map eLot), .d (.bool isl), .d (eI r), .d (eLot (sortN lump)), s, .un] _
        have hnl : ns.length ≤ 1000 := by have := li.le; omega
        refine q_app (p := p) rfl (ed_var rfl) (nl_Lot _) np.b np.s (by simp; omega) (by simp only [List.map_cons, List.map_nil, put_r, put_d, put_un, put_eq, put_ne hpq.symm, put_pl hs]; rfl) ?_
        refine q_app (p := q) rfl (ed_var rfl) (nl_Lot _) nq.b nq.s (by simp; omega) (by simp only [List.map_cons, List.map_nil, put_r, put_d, put_un, put_eq, put_ne hpq, put_pl hs]; rfl) ?_
        refine q_next (q_next (q_lf ⟨ps1 ++ [sortN lump], ns ++ [sortN lump], .d (eI i), .d (eI r), .d (eLot (sortN lump)), s, li_end li (by omega) (fun h => by omega), ?_, ⟨trivial, trivial, trivial, hs⟩, ?_⟩))
        · simp; omega
        · simp
    · have h1 : ps.length ≤ 1 := by have := of_decide_eq_false h; omega
      exact q_next (q_next (q_lf ⟨ps, ns, .d (eI i), s7, s8, s9, ti, .inr h1, ⟨trivial, h7, h8, h9⟩, rfl⟩))
  · obtain ⟨ps, ns, s3, s7, s8, s9, ti, hlen, _, rfl⟩ := hp
    have h1 : ps.length ≤ 1 := by omega
    refine q_ret (d := eTree n (sortL ns)) (ed_tup (ea_cons (ed_var rfl) (ea_cons (d := eLots (sortL ns)) (ed_cb (ea_cons (ed_L (el_rank (ed_varL rfl))) ea_nil) rc_tupL) ea_nil)) (by simp)) fun v H' e z h => hD _ v H' ⟨n, wide, sortL ns, rfl, hn0, hn, hw, ti_tree ti h1, fun h => ?_, rfl⟩ e z h
    have := ti.cnt h
    have hps : 0 < ps.length := by
      cases ps with
      | nil => have := ti.perm.length_eq; simp at this; omega
      | cons => simp
    rw [sortL_len]
    omega
end
end Fk
/-! trees: their number, their last nest, their neighbours -/
namespace Fk
open PySem PySem.Spec
theorem strict_len {n : Nat} {l : Lot} (h : StrictL l) (hx : ∀ x ∈ l, x < n) : l.length ≤ n := by
  have := nodup_len (strict_nodup h) (b := List.range n) fun x h => List.mem_range.mpr (hx x h)
  rwa [List.length_range] at this
theorem strict_full {n : Nat} {l : Lot} (h : StrictL l) (hx : ∀ x ∈ l, x < n) (e : l.length = n) : l = List.range n := by
  refine strict_ext h (range_strict n) fun x => ⟨fun hx' => List.mem_range.mpr (hx x hx'), fun hr => ?_⟩
  refine Classical.byContradiction fun hn => ?_
  have h1 := nodup_len (strict_nodup h) (b := (List.range n).erase x) fun y hy => (List.mem_erase_of_ne (fun e => hn (by rw [← e]; exact hy))).mpr (List.mem_range.mpr (hx y hy))
  rw [List.length_erase_of_mem hr, List.length_range] at h1
  have := List.mem_range.mp hr
  omega
theorem lotsGo_all : ∀ {n : Nat} {l : Lot}, StrictL l → (∀ x ∈ l, x < n) → l ∈ lotsGo n
  | 0, l, _, hx => by
    cases l with
    | nil => decide
    | cons x l => exact absurd (hx x (by simp)) (by omega)
  | n + 1, l, hs, hx => by
    rw [lotsGo_succ]
    by_cases hm : n ∈ l
    · refine List.mem_append_right _ (List.mem_map.mpr ⟨l.filter fun x => decide (x < n), lotsGo_all (hs.filter _) (fun x h => of_decide_eq_true (List.mem_filter.mp h).2), ?_⟩)
      refine strict_ext ?_ hs fun x => ?_
      · refine List.pairwise_append.mpr ⟨hs.filter _, by simp, fun a ha b hb => ?_⟩
        rw [List.mem_singleton.mp hb]
        exact of_decide_eq_true (List.mem_filter.mp ha).2
      · rw [List.mem_append, List.mem_filter, List.mem_singleton]
        refine ⟨fun h => h.elim (fun h => h.1) fun h => h ▸ hm, fun h => ?_⟩
        have := hx x h
        by_cases hxn : x = n
        · exact .inr hxn
        · exact .inl ⟨h, decide_eq_true (by omega)⟩
    · refine List.mem_append_left _ (lotsGo_all hs fun x h => ?_)
      have := hx x h
      have : x ≠ n := fun e => hm (e ▸ h)
      omega
theorem lotsGo_strict : ∀ {n : Nat} {l : Lot}, l ∈ lotsGo n → StrictL l
  | 0, l, h => by
    have : l = [] := by simpa [lotsGo] using h
    rw [this]; exact .nil
  | n + 1, l, h => by
    rw [lotsGo_succ] at h
    rcases List.mem_append.mp h with h | h
    · exact lotsGo_strict h
    · obtain ⟨m, hm, rfl⟩ := List.mem_map.mp h
      refine List.pairwise_append.mpr ⟨lotsGo_strict hm, by simp, fun a ha b hb => ?_⟩
      rw [List.mem_singleton.mp hb]
      exact (lotsGo_lt n m hm).1 a ha
theorem nodup_lens {α : Type} [DecidableEq α] : ∀ {a b : List α}, a.Nodup → (∀ x ∈ a, x ∈ b) → a.length ≤ b.length
  | [], b, _, _ => Nat.zero_le _
  | x :: a, b, h, s => by
    have hx := s x List.mem_cons_self
    have h1 := List.nodup_cons.mp h
    have h2 := nodup_lens (a := a) (b := b.erase x) h1.2 fun y hy => (List.mem_erase_of_ne (fun e => h1.1 (by rw [← e]; exact hy))).mpr (s y (List.mem_cons_of_mem _ hy))
    rw [List.length_erase_of_mem hx] at h2
    have := List.length_pos_of_mem hx
    simp
    omega
theorem Tree.len {n : Nat} {ns : List Lot} (t : Tree n ns) (h : n ≤ 9) : ns.length ≤ 512 := by
  have h1 := nodup_lens t.nodup (b := lotsGo n) fun l hl => lotsGo_all (t.mem l hl).1 (t.mem l hl).2.1
  rw [lotsGo_len] at h1
  exact Nat.le_trans h1 (show 2 ^ n ≤ 2 ^ 9 from Nat.pow_le_pow_right (by decide) h)
theorem Tree.l10 {n : Nat} {ns : List Lot} (t : Tree n ns) (h : n ≤ 9) : Lt10s ns := fun l hl x hx => by have := (t.mem l hl).2.1 x hx; omega
theorem Tree.ll {n : Nat} {ns : List Lot} (t : Tree n ns) {l : Lot} (hl : l ∈ ns) : l.length ≤ n := strict_len (t.mem l hl).1 (t.mem l hl).2.1
theorem Tree.two {n : Nat} {ns : List Lot} (t : Tree n ns) {l : Lot} (hl : l ∈ ns) : 2 ≤ n := Nat.le_trans (t.mem l hl).2.2 (t.ll hl)
theorem rank_le_len {a b : Lot} (h : rankLe a b = true) : a.length ≤ b.length := by
  unfold rankLe rankLt at h
  by_cases e : b.length = a.length
  · omega
  · rw [if_neg e] at h
    simp at h
    exact h
theorem Tree.last {n : Nat} {ns : List Lot} (t : Tree n ns) (hne : ns ≠ []) : ∃ ks, ns = ks ++ [List.range n] := by
  obtain ⟨ks, l, rfl⟩ : ∃ ks l, ns = ks ++ [l] := ⟨ns.dropLast, ns.getLast hne, (List.dropLast_concat_getLast hne).symm⟩
  have hl : l ∈ ks ++ [l] := by simp
  have hw := t.whole (t.two hl)
  refine ⟨ks, ?_⟩
  rcases List.mem_append.mp hw with h | h
  · have h1 := (List.pairwise_append.mp t.sorted).2.2 _ h l (by simp)
    have h2 := rank_le_len h1
    rw [List.length_range] at h2
    rw [strict_full (t.mem l hl).1 (t.mem l hl).2.1 (Nat.le_antisymm (t.ll hl) h2)]
  · rw [List.mem_singleton.mp h]
theorem Tree.erase {n k : Nat} {ns : List Lot} (t : Tree n ns) (hk : k + 1 < ns.length) : Tree n (ns.eraseIdx k) := by
  have sub : (ns.eraseIdx k).Sublist ns := List.eraseIdx_sublist ..
  refine ⟨t.sorted.sublist sub, t.nodup.sublist sub, fun l hl => t.mem l (sub.subset hl), fun a ha b hb => t.lam a (sub.subset ha) b (sub.subset hb), fun h => ?_⟩
  have hne : ns ≠ [] := by intro e; rw [e] at hk; simp at hk
  obtain ⟨ks, e⟩ := t.last hne
  rw [e] at hk ⊢
  simp at hk
  rw [List.eraseIdx_append_of_lt_length hk]
  simp
theorem cross_symm {a b : Lot} (na : a.Nodup) (nb : b.Nodup) (h : crossL a b = false) : crossL b a = false := by
  unfold crossL at h
  simp only [Bool.and_eq_false_iff, decide_eq_false_iff_not, Nat.not_lt] at h
  rcases h with h | h
  · refine cross_dis fun x hb ha => ?_
    have : x ∈ a.filter fun x => decide (x ∈ b) := List.mem_filter.mpr ⟨ha, decide_eq_true hb⟩
    have := List.length_pos_of_mem this
    omega
  · by_cases hab : a.length ≤ b.length
    · have h1 : (a.filter fun x => decide (x ∈ b)).length = a.length := Nat.le_antisymm (List.length_filter_le _ _) (by omega)
      have h2 := List.length_filter_eq_length_iff.mp h1
      exact cross_sup na fun x hx => of_decide_eq_true (h2 x hx)
    · refine cross_sub fun x hx => Classical.byContradiction fun hn => ?_
      have h1 := nodup_len (na.filter fun x => decide (x ∈ b)) (b := b.erase x) fun y hy => by
        obtain ⟨h1, h2⟩ := List.mem_filter.mp hy
        exact (List.mem_erase_of_ne (fun e => hn (by rw [← e]; exact h1))).mpr (of_decide_eq_true h2)
      rw [List.length_erase_of_mem hx] at h1
      have := List.length_pos_of_mem hx
      omega
theorem cross_self (a : Lot) : crossL a a = false := cross_sub fun _ h => h
theorem Tree.add {n : Nat} {ns : List Lot} {m : Lot} (t : Tree n ns) (hs : StrictL m) (hx : ∀ x ∈ m, x < n) (h2 : 2 ≤ m.length) (hn : m ∉ ns) (hc : ∀ l ∈ ns, crossL l m = false) : Tree n (sortL (ns ++ [m])) := by
  refine ⟨isort_sorted rank_tr rank_tot _, (isort_perm _ _).nodup_iff.mpr (List.nodup_append.mpr ⟨t.nodup, by simp, fun a ha b hb e => ?_⟩), fun l hl => ?_, fun a ha b hb => ?_, fun h => sortL_mem.mpr (List.mem_append_left _ (t.whole h))⟩
  · rw [List.mem_singleton.mp hb] at e; exact hn (e ▸ ha)
  · rcases List.mem_append.mp (sortL_mem.mp hl) with h | h
    · exact t.mem l h
    · rw [List.mem_singleton.mp h]; exact ⟨hs, hx, h2⟩
  · rcases List.mem_append.mp (sortL_mem.mp ha) with ha | ha
    · rcases List.mem_append.mp (sortL_mem.mp hb) with hb | hb
      · exact t.lam a ha b hb
      · rw [List.mem_singleton.mp hb]; exact hc a ha
    · rw [List.mem_singleton.mp ha]
      rcases List.mem_append.mp (sortL_mem.mp hb) with hb | hb
      · exact cross_symm (strict_nodup (t.mem b hb).1) (strict_nodup hs) (hc b hb)
      · rw [List.mem_singleton.mp hb]; exact cross_self m
theorem nodup_inj {l : Lot} (h : l.Nodup) {i j : Nat} (hi : i < l.length) (hj : j < l.length) (e : l[i] = l[j]) : i = j := by
  have h1 := List.pairwise_iff_getElem.mp h
  rcases Nat.lt_trichotomy i j with h2 | h2 | h2
  · exact absurd e (h1 i j hi hj h2)
  · exact h2
  · exact absurd e.symm (h1 j i hj hi h2)
/-! new names -/
structure Perm (n : Nat) (line : Lot) : Prop where
  p : line.Perm (List.range n)
theorem Perm.len {n : Nat} {line : Lot} (h : Perm n line) : line.length = n := perm_range_len h.p
theorem Perm.nd {n : Nat} {line : Lot} (h : Perm n line) : line.Nodup := h.p.nodup_iff.mpr List.nodup_range
theorem Perm.lt {n : Nat} {line : Lot} (h : Perm n line) {x : Nat} (hx : x < n) : line.getD x 0 < n := by
  have hl : x < line.length := by rw [h.len]; exact hx
  rw [List.getD_eq_getElem?_getD, List.getElem?_eq_getElem hl]
  exact List.mem_range.mp (h.p.subset (List.getElem_mem hl))
theorem Perm.inj {n : Nat} {line : Lot} (h : Perm n line) {x y : Nat} (hx : x < n) (hy : y < n) (e : line.getD x 0 = line.getD y 0) : x = y := by
  have hl : x < line.length := by rw [h.len]; exact hx
  have hl2 : y < line.length := by rw [h.len]; exact hy
  rw [List.getD_eq_getElem?_getD, List.getElem?_eq_getElem hl, List.getD_eq_getElem?_getD, List.getElem?_eq_getElem hl2] at e
  exact nodup_inj h.nd hl hl2 e
def ren (line l : Lot) : Lot := sortN (l.map fun x => line.getD x 0)
theorem ren_mem {line l : Lot} {y : Nat} : y ∈ ren line l ↔ ∃ x ∈ l, line.getD x 0 = y := by
  unfold ren
  rw [sortN_mem, List.mem_map]
theorem map_nodup {α β : Type} {f : α → β} : ∀ {l : List α}, l.Nodup → (∀ x ∈ l, ∀ y ∈ l, f x = f y → x = y) → (l.map f).Nodup
  | [], _, _ => .nil
  | a :: l, h, hf => by
    have h1 := List.nodup_cons.mp h
    refine List.nodup_cons.mpr ⟨fun hm => ?_, map_nodup h1.2 fun x hx y hy => hf x (by simp [hx]) y (by simp [hy])⟩
    obtain ⟨x, hx, e⟩ := List.mem_map.mp hm
    have := hf x (by simp [hx]) a (by simp) e
    exact h1.1 (this ▸ hx)
theorem ren_strict {n : Nat} {line l : Lot} (h : Perm n line) (hs : StrictL l) (hx : ∀ x ∈ l, x < n) : StrictL (ren line l) :=
  sortN_lt (map_nodup (strict_nodup hs) fun x hx' y hy e => h.inj (hx x hx') (hx y hy) e)
theorem ren_len {line l : Lot} : (ren line l).length = l.length := by
  unfold ren; rw [(sortN_perm _).length_eq, List.length_map]
theorem ren_sub {n : Nat} {line a b : Lot} (h : Perm n line) (ha : ∀ x ∈ a, x < n) (hb : ∀ x ∈ b, x < n) {x : Nat} (hx : x < n) : line.getD x 0 ∈ ren line b ↔ x ∈ b := by
  rw [ren_mem]
  exact ⟨fun ⟨y, hy, e⟩ => h.inj (hb y hy) hx e ▸ hy, fun h => ⟨x, h, rfl⟩⟩
theorem ren_inj {n : Nat} {line a b : Lot} (h : Perm n line) (sa : StrictL a) (sb : StrictL b) (ha : ∀ x ∈ a, x < n) (hb : ∀ x ∈ b, x < n) (e : ren line a = ren line b) : a = b :=
  strict_ext sa sb fun x => ⟨fun hx => (ren_sub h ha hb (ha x hx)).mp (e ▸ (ren_sub h ha ha (ha x hx)).mpr hx), fun hx => (ren_sub h ha ha (hb x hx)).mp (e ▸ (ren_sub h ha hb (hb x hx)).mpr hx)⟩
theorem ren_range {n : Nat} {line : Lot} (h : Perm n line) : ren line (List.range n) = List.range n :=
  strict_full (ren_strict h (range_strict n) fun x hx => List.mem_range.mp hx) (fun y hy => by
    obtain ⟨x, hx, rfl⟩ := ren_mem.mp hy
    exact h.lt (List.mem_range.mp hx)) (by rw [ren_len, List.length_range])
theorem ren_shared {n : Nat} {line a b : Lot} (h : Perm n line) (ha : ∀ x ∈ a, x < n) (hb : ∀ x ∈ b, x < n) : ((ren line a).filter fun x => decide (x ∈ ren line b)).length = (a.filter fun x => decide (x ∈ b)).length := by
  have h1 : ((ren line a).filter fun x => decide (x ∈ ren line b)).Perm ((a.map fun x => line.getD x 0).filter fun x => decide (x ∈ ren line b)) := (sortN_perm _).filter _
  rw [h1.length_eq, List.filter_map, List.length_map]
  congr 1
  refine List.filter_congr fun x hx => ?_
  show decide (line.getD x 0 ∈ ren line b) = decide (x ∈ b)
  exact decide_eq_decide.mpr (ren_sub h ha hb (ha x hx))
theorem ren_cross {n : Nat} {line a b : Lot} (h : Perm n line) (ha : ∀ x ∈ a, x < n) (hb : ∀ x ∈ b, x < n) : crossL (ren line a) (ren line b) = crossL a b := by
  unfold crossL
  rw [ren_shared h ha hb, ren_len, ren_len]
theorem nameL_ren (ns : List Lot) (line : Lot) : nameL ns line = ns.map (ren line) := rfl
theorem Tree.named {n : Nat} {ns : List Lot} {line : Lot} (t : Tree n ns) (h : Perm n line) : Tree n (namedL ns line) := by
  have mem : ∀ l, l ∈ namedL ns line ↔ ∃ m ∈ ns, ren line m = l := fun l => by
    unfold namedL; rw [sortL_mem, nameL_ren, List.mem_map]
  refine ⟨isort_sorted rank_tr rank_tot _, (isort_perm _ _).nodup_iff.mpr ?_, fun l hl => ?_, fun a ha b hb => ?_, fun hn => (mem _).mpr ⟨_, t.whole hn, ren_range h⟩⟩
  · rw [nameL_ren]
    exact map_nodup t.nodup fun a ha b hb e => ren_inj h (t.mem a ha).1 (t.mem b hb).1 (t.mem a ha).2.1 (t.mem b hb).2.1 e
  · obtain ⟨m, hm, rfl⟩ := (mem l).mp hl
    obtain ⟨h1, h2, h3⟩ := t.mem m hm
    refine ⟨ren_strict h h1 h2, fun y hy => ?_, by rw [ren_len]; exact h3⟩
    obtain ⟨x, hx, rfl⟩ := ren_mem.mp hy
    exact h.lt (h2 x hx)
  · obtain ⟨a', ha', rfl⟩ := (mem a).mp ha
    obtain ⟨b', hb', rfl⟩ := (mem b).mp hb
    rw [ren_cross h (t.mem a' ha').2.1 (t.mem b' hb').2.1]
    exact t.lam a' ha' b' hb'
theorem swap_perm {n i j : Nat} (hi : i < n) (hj : j < n) : Perm n (((List.range n).set i j).set j i) := by
  refine ⟨?_⟩
  have hl : (((List.range n).set i j).set j i).length = n := by simp
  refine (List.perm_ext_iff_of_nodup ?_ List.nodup_range).mpr fun x => ?_
  · refine List.pairwise_iff_getElem.mpr fun a b ha hb hab e => ?_
    rw [hl] at ha hb
    rw [List.getElem_set, List.getElem_set, List.getElem_set, List.getElem_set] at e
    simp only [List.getElem_range] at e
    split at e <;> split at e <;> (try split at e) <;> (try split at e) <;> omega
  · refine ⟨fun h => ?_, fun h => ?_⟩
    · obtain ⟨a, ha, rfl⟩ := List.mem_iff_getElem.mp h
      rw [hl] at ha
      rw [List.getElem_set, List.getElem_set]
      split
      · exact List.mem_range.mpr hi
      · split
        · exact List.mem_range.mpr hj
        · simp; exact ha
    · have hx := List.mem_range.mp h
      by_cases h1 : x = i
      · exact List.mem_iff_getElem?.mpr ⟨j, by rw [List.getElem?_set]; simp [hj, h1]⟩
      · by_cases h2 : x = j
        · refine List.mem_iff_getElem?.mpr ⟨i, ?_⟩
          rw [List.getElem?_set, List.getElem?_set]
          by_cases hij : j = i
          · omega
          · rw [if_neg hij]; simp [hi, h2]
        · refine List.mem_iff_getElem?.mpr ⟨x, ?_⟩
          rw [List.getElem?_set, if_neg (fun e => h2 e.symm), List.getElem?_set, if_neg (fun e => h1 e.symm), List.getElem?_range hx]
end Fk
/-! the walks, 19: a near tree -/
namespace Fk
open PySem PySem.Spec PyProof.Rows L2
section
variable {K : PySem.W.Frag} {B : Hp} {S : Addr → Prop} {Z : Hp → Prop} {ρ ρ' : List Sl} {ti tv : TE} {tz : TS} {D : Ends} {ds es : List PyData} {d : PyData} [zk : ZK S Z]
theorem dps_set {H : Hp} {v : V} : ∀ {vs : List V} {ds : List PyData} (k : Nat), DpAll K H vs ds → Dp K H v d → DpAll K H (vs.set k v) (ds.set k d)
  | _, _, _, .nil, _ => .nil
  | _, _, 0, .cons _ b, h => .cons h b
  | _, _, k + 1, .cons a b, h => .cons a (dps_set k b h)
theorem noLs_set (h : noLs ds = true) (k : Nat) (hd : noL d = true) : noLs (ds.set k d) = true := by
  rw [noLs_iff] at h ⊢
  intro x hx
  rcases List.mem_or_eq_of_mem_set hx with hx | hx
  · exact h x hx
  · rw [hx]; exact hd
theorem q_setV {i j : Nat} {p : Addr} (hi : ρ[i]? = some (.l p ds)) (hj : EvD K B ti ρ (eI j)) (hv : EvD K B tv ρ d) (hd : noL d = true) (hB : B p = none) (hS : ¬ S p) (hlt : j < ds.length) (hρ : ρ.map (putL p (.l p (ds.set j d))) = ρ') (k : TrR K B S Z tz ρ' D) :
    TrR K B S Z (tSeq (tAsg tv (gSub (tVar i) ti rSetL)) tz) ρ D := fun σ H a => hv σ H a.eb a.ok _ fun v H1 e1 h1 => by
  have a1 := a.ex e1
  obtain ⟨e2, xs, k1, k2, k3⟩ := a1.ok.l hi
  refine ⟨_, e2, hj σ H1 a1.eb a1.ok _ fun u H2 e3 hu => ?_⟩
  obtain rfl := dp_int hu
  have a2 := a1.ex e3
  have k4 := e3 _ _ k1
  refine ⟨p, xs, (j : Int), j, rfl, rfl, k4, Evl.ixN_nat (by rw [dps_len k2]; exact hlt), ?_⟩
  have tx : TX H2 (L2.upd H2 p (.lst (xs.set j v))) := TX.upd k4 rfl
  subst hρ
  exact k _ _ (a2.upd (o := .lst (xs.set j v)) (s' := .l p (ds.set j d)) k4 rfl hB hS ⟨rfl, _, upd_same, dps_tx tx _ _ (noLs_set k3 j hd) (dps_set j (dps_ex e3 _ _ k2) (dp_ex e3 _ _ h1)), noLs_set k3 j hd⟩)
theorem cut_take {ds : List PyData} {k : Nat} (h : k ≤ ds.length) : cutD ds none (some (k : Int)) = ds.take k := by
  unfold cutD
  rw [HT.sIx_nat, HT.sIx_none, Nat.min_eq_left h, Nat.sub_zero, List.drop_zero]
theorem cut_drop {ds : List PyData} {k : Nat} (h : k ≤ ds.length) : cutD ds (some (k : Int)) none = ds.drop k := by
  unfold cutD
  rw [HT.sIx_nat, HT.sIx_none, Nat.min_eq_left h]
  exact List.take_of_length_le (by rw [List.length_drop]; exact Nat.le_refl _)
theorem eqv_nilL {ds : List PyData} : PyData.eqv (.list ds) (.list []) = ds.isEmpty := by
  cases ds <;> simp [PyData.eqv, PyData.eqvAll]
end
section
variable {P : Program} {w : World} {K : PySem.W.Frag} {mg : Str → Option Value} {base : Heap}
def R__law_near (ds : List PyData) (d : PyData) : Prop := ∃ (n : Nat) (ns ms : List Lot), ds = [eTree n ns] ∧ 0 < n ∧ n ≤ 9 ∧ Tree n ns ∧ Tree n ms ∧ d = eTree n ms
abbrev sp__law_near (K : PySem.W.Frag) : Sp := spZ K R__law_near
theorem len__law_near : ∀ ds es, R__law_near ds es → ds.length + 1 = 2 := by rintro ds d ⟨n, least, l, rfl, _⟩; rfl
theorem nl__law_near : ∀ ds es, R__law_near ds es → noLs ds = true := by rintro ds d ⟨n, ns, l, rfl, _⟩; simp [noLs, nl_Tree]
theorem some_of {n k : Nat} {d : PyData} (h : R__law_some [eI n, eI k] d) : ∃ l : Lot, StrictL l ∧ (∀ x ∈ l, x < n) ∧ (k ≤ l.length ∨ n ≤ l.length) ∧ d = eLot l := by
  obtain ⟨m, k', l, he, _, h1, h2, h3, rfl⟩ := h
  have h := List.cons.inj he
  obtain rfl := eI_inj h.1
  obtain rfl := eI_inj (List.cons.inj h.2).1
  exact ⟨l, h1, h2, h3, rfl⟩
theorem strict10 {n : Nat} {l : Lot} (hn : n ≤ 9) (h : ∀ x ∈ l, x < n) : Lt10 l := fun x hx => by have := h x hx; omega
-- slots: _law_store_here:0 _law_own:1 _law_line_here:2 _law_size:3 _law_nests:4 _law_way:5 _law_gone:6 _law_to:7 _law_more:8c _law_nest:9  level 5
abbrev N__law_near : List Str := ["_law_store_here", "_law_own", "_law_line_here", "_law_size", "_law_nests", "_law_way", "_law_gone", "_law_to", "_law_more", "_law_nest"]
theorem sc__law_near : FnScope N__law_near ["_law_store_here", "_law_own"] (defScope s__law_near) := ⟨rfl, rfl, rfl, by decide +kernel, rfl, by decide +kernel, by decide +kernel⟩
theorem bd__law_near : BindsBy "_law_near" s__law_near ["_law_store_here", "_law_own"] := fun _ _ _ _ _ _ us hl => match us, hl with | [_, _], _ => rfl
theorem ok__law_near (F : Here K mg "_law_near" s__law_near) (bs : Bs mg) (h__law_crosses : Ok P w K mg base 1 "_law_crosses" ["_law_one", "_law_two"] (sp__law_crosses K)) (h__law_draw : Ok P w K mg base 1 "_law_draw" ["_law_store_here", "_law_size"] (sp__law_draw K)) (h__law_named : Ok P w K mg base 4 "_law_named" ["_law_own", "_law_line_here"] (sp__law_named K)) (h__law_rank : OkP P w K mg base 1 "_law_rank" ["_law_own"] (sp__law_rank K)) (h__law_some : Ok P w K mg base 3 "_law_some" ["_law_store_here", "_law_size", "_law_least"] (sp__law_some K)) : Ok P w K mg base 5 "_law_near" ["_law_store_here", "_law_own"] (sp__law_near K) := by
  have nd := sc__law_near.nd
  refine mkG F sc__law_near bd__law_near (lenZ len__law_near) fun f cdv A outer s H E hg hr => ⟨_, (pss_cons (ps_asg (pv 1) (pg_tup rfl (pgs_cons (pg_name (i := 3) nd rfl (Or.inl rfl)) (pgs_cons (pg_name (i := 4) nd rfl (Or.inl rfl)) pgs_nil))))
    (pss_cons (ps_asg (pe_tup (pa_cons (pe_callN h__law_draw hg (hr.mono (by decide)) rfl (pa_cons (pv 0) (pa_cons pe_int pa_nil))) (pa_cons (pe_callN h__law_draw hg (hr.mono (by decide)) rfl (pa_cons (pv 0) (pa_cons (pv 3) pa_nil))) (pa_cons (pe_callN h__law_draw hg (hr.mono (by decide)) rfl (pa_cons (pv 0) (pa_cons (pv 3) pa_nil))) (pa_cons (pe_callN h__law_some hg (hr.mono (by decide)) rfl (pa_cons (pv 0) (pa_cons (pv 3) (pa_cons pe_int pa_nil)))) pa_nil))))) (pg_tup rfl (pgs_cons (pg_name (i := 5) nd rfl (Or.inl rfl)) (pgs_cons (pg_name (i := 6) nd rfl (Or.inl rfl)) (pgs_cons (pg_name (i := 7) nd rfl (Or.inl rfl)) (pgs_cons (pg_name (i := 8) nd rfl (Or.inr rfl)) pgs_nil))))))
    (pss_cons (ps_if (PW.pt (pw_and (pt_cmpR (op_eqk K rfl hr.units) (pv 5) pe_int (nomark _)) (pw_and1 (pt_cmpR op_gt (pe_callB (cr_lenk K rfl) rfl bs.len boot_len (pa_cons (pv 4) pa_nil)) pe_int (nomark _))))) (pss_cons (ps_set (i := 6) nd rfl (Or.inl rfl) (pe_op op_mod (pe_callTy cr_int1 rfl bs.int boot_int (pa_cons (pv 6) pa_nil)) (pe_op op_sub (pe_callB (cr_lenk K rfl) rfl bs.len boot_len (pa_cons (pv 4) pa_nil)) pe_int)))
    (pss_cons (ps_ret (pe_tup (pa_cons (pv 3) (pa_cons (pe_op (op_catk K rfl) (pe_slice (sl_tk K rfl) (pv 4) po_none (po_some (pv 6))) (pe_slice (sl_tk K rfl) (pv 4) (po_some (pe_op op_add (pv 6) pe_int)) po_none)) pa_nil))))
    pss_nil)) pss_nil)
    (pss_cons (ps_if (PW.pt (pw_and (pt_cmpR (op_eqk K rfl hr.units) (pv 5) pe_int (nomark _)) (pw_and (pt_cmpR op_gt (pe_callB (cr_lenk K rfl) rfl bs.len boot_len (pa_cons (pv 8) pa_nil)) pe_int (nomark _)) (pw_and1 (pt_cmpR (op_nik K rfl (hu65 hr)) (pv 8) (pv 4) (by with_unfolding_all rfl)))))) (pss_cons (ps_if (pt_cmpR (op_eqk K rfl hr.units) (pe_lc (own := [("_law_nest", 9)]) rfl nd (pi_tk K rfl (pv 4)) (blk1 rfl rfl rfl rfl rfl) (fun _ _ _ _ _ => pg_name (i := 9) nd rfl (by first | exact Or.inl rfl | exact Or.inr rfl)) (fun _ _ _ _ _ => pts_one (pt_val (pe_callN h__law_crosses hg (hr.mono (by decide)) rfl (pa_cons (pv 9) (pa_cons (pv 8) pa_nil))))) (fun _ _ _ _ _ => (pv 9))) (pe_lst pa_nil) (nomark _)) (pss_cons (ps_ret (pe_tup (pa_cons (pv 3) (pa_cons (pe_callTy (cr_tupk K rfl) rfl bs.tuple boot_tuple (pa_cons (pe_sortK h__law_rank (hr.mono (by decide)) rfl bs.sorted rfl (pa_cons (pe_op (op_catk K rfl) (pv 4) (pe_tup (pa_cons (pv 8) pa_nil))) pa_nil)) pa_nil)) pa_nil))))
    pss_nil) pss_nil)
    pss_nil) pss_nil)
    (pss_cons (ps_set (i := 2) nd rfl (Or.inl rfl) (pe_listRg rfl rfl bs.list (prg_1 rfl bs.range (pv 3))))
    (pss_cons (ps_asg (pv 7) (pg_sub (pv 2) (pv 6) set_list))
    (pss_cons (ps_asg (pv 6) (pg_sub (pv 2) (pv 7) set_list))
    (pss_cons (ps_ret (pe_callN h__law_named hg hr rfl (pa_cons (pv 1) (pa_cons (pv 2) pa_nil))))
    pss_nil)))))))), runZ nl__law_near fun B st lf ln ds hR zs D hD => ?_⟩
  obtain ⟨d0, n, ns, _, rfl, hn0, hn, t, _⟩ := hR
  show TrR K B _ _ _ [.r st, .d (eTree n ns), .un, .un, .un, .un, .un, .un, .un, .un] _
  refine q_unp (d := .tuple [eI n, eLots ns]) (ed_var rfl) (gt_tup2 rfl (nl_Lots ns)) ?_
  show TrR K B _ _ _ [.r st, .d (eTree n ns), .un, .d (eI n), .d (eLots ns), .un, .un, .un, .un, .un] _
  have hlen := t.len hn
  refine q_unpX (Po := fun d ρ' => ∃ (a b c : Nat) (l : Lot), d = .tuple [eI a, eI b, eI c, eLot l] ∧ b < n ∧ c < n ∧ StrictL l ∧ (∀ x ∈ l, x < n) ∧ ρ' = [.r st, .d (eTree n ns), .un, .d (eI n), .d (eLots ns), .un, .un, .un, .un, .un]) (ex_tup (Pa := fun ds ρ' => ∃ (a b c : Nat) (l : Lot), ds = [eI a, eI b, eI c, eLot l] ∧ b < n ∧ c < n ∧ StrictL l ∧ (∀ x ∈ l, x < n) ∧ ρ' = [.r st, .d (eTree n ns), .un, .d (eI n), .d (eLots ns), .un, .un, .un, .un, .un]) ?_ ?_) fun d ρ' hp => ?_
  · refine ax_cons (Pa := fun d ρ' => ∃ a, d = eI a ∧ ρ' = [.r st, .d (eTree n ns), .un, .d (eI n), .d (eLots ns), .un, .un, .un, .un, .un]) (ex_draw (n := 3) zs rfl ed_int (by decide) (by decide) (by simp [adrs]) (by simp [noT]) fun r hr => ⟨r, rfl, rfl⟩) (by rintro d ρ' ⟨a, rfl, _⟩; rfl) ?_
    rintro d ρ' ⟨a, rfl, rfl⟩
    refine ax_cons (Pa := fun d ρ' => ∃ b, b < n ∧ d = eI b ∧ ρ' = [.r st, .d (eTree n ns), .un, .d (eI n), .d (eLots ns), .un, .un, .un, .un, .un]) (ex_draw (n := n) zs rfl (ed_var rfl) hn0 (by omega) (by simp [adrs]) (by simp [noT]) fun r hr => ⟨r, hr, rfl, rfl⟩) (by rintro d ρ' ⟨a, _, rfl, _⟩; rfl) ?_
    rintro d ρ' ⟨b, hb, rfl, rfl⟩
    refine ax_cons (Pa := fun d ρ' => ∃ b, b < n ∧ d = eI b ∧ ρ' = [.r st, .d (eTree n ns), .un, .d (eI n), .d (eLots ns), .un, .un, .un, .un, .un]) (ex_draw (n := n) zs rfl (ed_var rfl) hn0 (by omega) (by simp [adrs]) (by simp [noT]) fun r hr => ⟨r, hr, rfl, rfl⟩) (by rintro d ρ' ⟨a, _, rfl, _⟩; rfl) ?_
    rintro d ρ' ⟨c, hc, rfl, rfl⟩
    refine ax_cons (Pa := fun d ρ' => R__law_some [eI n, eI 2] d ∧ ρ' = [.r st, .d (eTree n ns), .un, .d (eI n), .d (eLots ns), .un, .un, .un, .un, .un]) (ex_call (R := R__law_some) (ds := [eI n, eI 2]) zs ⟨by simp [adrs], by simp [noT]⟩ rfl (ea_cons (ed_var rfl) (ea_cons ed_int ea_nil)) ⟨_, n, 2, List.range n, rfl, hn, range_strict n, fun x hx => List.mem_range.mp hx, .inr (by simp), rfl⟩) ?_ ?_
    · rintro d ρ' ⟨hd, _⟩
      obtain ⟨l, _, _, _, rfl⟩ := some_of hd
      exact nl_Lot l
    · rintro d ρ' ⟨hd, rfl⟩ σ H a' Q q
      obtain ⟨l, h1, h2, _, rfl⟩ := some_of hd
      exact ax_a ea_nil σ H a' Q fun vs H2 ds ρ2 p2 => q vs H2 ds ρ2 (by obtain ⟨rfl, rfl⟩ := p2; exact ⟨a, b, c, l, rfl, hb, hc, h1, h2, rfl⟩)
  · rintro ds ρ' ⟨a, b, c, l, rfl, h1, h2, h3, h4, rfl⟩
    exact ⟨by simp, a, b, c, l, rfl, h1, h2, h3, h4, rfl⟩
  obtain ⟨a, b, c, l, rfl, hb, hc, hs, hx, rfl⟩ := hp
  refine ⟨_, gt_tup4 rfl rfl rfl (nl_Lot l), ?_⟩
  show TrR K B _ _ _ [.r st, .d (eTree n ns), .un, .d (eI n), .d (eLots ns), .d (eI a), .d (eI b), .d (eI c), .d (eLot l), .un] _
  have hl := strict_len hs hx
  have done : ∀ ms, Tree n ms → ∀ v H', Ex B H' → StZ st lf ln H' → Dp K H' v (eTree n ms) → D.rt v H' := fun ms tm v H' e z h => hD _ v H' ⟨n, ns, ms, rfl, hn0, hn, t, tm, rfl⟩ e z h
  have last : TrR K B (StS st lf ln) (StZ st lf ln) (tSeq (tAsg (tLstRg (tRg1 (tVar 3))) (gName 2)) (tSeq (tAsg (tVar 7) (gSub (tVar 2) (tVar 6) rSetL)) (tSeq (tAsg (tVar 6) (gSub (tVar 2) (tVar 7) rSetL)) (tSeq (tRet (tCall (sp__law_named K) [] E0 (tCons (tVar 1) (tCons (tVar 2) tNil)))) tNext)))) [.r st, .d (eTree n ns), .un, .d (eI n), .d (eLots ns), .d (eI a), .d (eI b), .d (eI c), .d (eLot l), .un] D := by
    refine q_asgL (ds := (List.range n).map eI) (el_is (el_listRg (n := n) (ed_var rfl) (by omega)) rfl) (nls_I _) fun p np => ?_
    show TrR K B _ _ _ [.r st, .d (eTree n ns), .l p ((List.range n).map eI), .d (eI n), .d (eLots ns), .d (eI a), .d (eI b), .d (eI c), .d (eLot l), .un] _
    refine q_setV (p := p) rfl (ed_var rfl) (ed_var rfl) rfl np.b np.s (by simp; exact hb) (by simp only [List.map_cons, List.map_nil, put_r, put_d, put_un, put_eq]; rfl) ?_
    refine q_setV (p := p) rfl (ed_var rfl) (ed_var rfl) rfl np.b np.s (by simp; exact hc) (by simp only [List.map_cons, List.map_nil, put_r, put_d, put_un, put_eq]; rfl) ?_
    have e : (((List.range n).map eI).set b (eI c)).set c (eI b) = (((List.range n).set b c).set c b).map eI := by rw [List.map_set, List.map_set]
    rw [e]
    have pm := swap_perm hb hc
    refine q_ret (d := eTree n (namedL ns (((List.range n).set b c).set c b))) (ed_call (ea_cons (ed_var rfl) (ea_cons (ed_varL rfl) ea_nil)) ⟨n, ns, _, _, rfl, .inr rfl, fun m hm x hx => ?_, fun m hm => ?_, by omega, rfl⟩) (done _ (t.named pm))
    · rw [pm.len]; exact (t.mem m hm).2.1 x hx
    · have := t.ll hm; omega
  refine q_if (b := decide (a = 0) && decide (1 < ns.length)) (et_and (et_test (ed_eqN (b := 0) (ed_var rfl) ed_int)) fun _ => et_test (ed_gtN (b := 1) (ed_lenLots (ed_var rfl)) ed_int)) (fun h => ?_) (fun h => q_next ?_)
  · have h1 : 1 < ns.length := by simp at h; exact h.2
    have hmod : ((b : Int) % ((ns.length : Int) - 1)) = ((b % (ns.length - 1) : Nat) : Int) := by
      rw [show ((ns.length : Int) - 1) = ((ns.length - 1 : Nat) : Int) by omega]
      rfl
    have hlt : b % (ns.length - 1) < ns.length - 1 := Nat.mod_lt _ (by omega)
    refine q_asg (d := eI (b % (ns.length - 1))) (ed_is (ed_op (ed_cb (ea_cons (ed_var rfl) ea_nil) rc_int1) (ed_op (ed_lenLots (ed_var rfl)) ed_int rd_sub) (rd_mod (by show (0 : Int) < (ns.length : Int) - 1; omega))) (by show PyData.int _ = PyData.int _; rw [hmod])) rfl ?_
    show TrR K B _ _ _ [.r st, .d (eTree n ns), .un, .d (eI n), .d (eLots ns), .d (eI a), .d (eI (b % (ns.length - 1))), .d (eI c), .d (eLot l), .un] _
    generalize b % (ns.length - 1) = k at hlt
    refine q_ret (d := eTree n (ns.eraseIdx k)) ?_ (done _ (t.erase (by omega)))
    refine ed_tup (ea_cons (ed_var rfl) (ea_cons (d := eLots (ns.eraseIdx k)) ?_ ea_nil)) (by simp)
    have e : eLots (ns.eraseIdx k) = .tuple (cutD (ns.map eLot) none (some (k : Int)) ++ cutD (ns.map eLot) (some ((k + 1 : Nat) : Int)) none) := by
      rw [cut_take (by simp; omega), cut_drop (by simp; omega), List.eraseIdx_eq_take_drop_succ]
      simp [eLots]
    rw [e]
    refine ed_op (ed_slT (ed_var rfl) eo_none (eo_some (ed_var rfl))) (ed_slT (ed_var rfl) (eo_some (ed_addN (b := 1) (ed_var rfl) ed_int)) eo_none) (rd_catT ?_)
    rw [cut_take (by simp; omega), cut_drop (by simp; omega)]
    simp
    omega
  refine q_if (b := decide (a = 1) && (decide (1 < l.length) && decide (l ∉ ns))) (et_and (et_test (ed_eqN (b := 1) (ed_var rfl) ed_int)) fun _ => et_and (et_test (ed_gtN (b := 1) (ed_lenLot (ed_var rfl)) ed_int)) fun _ => et_test (ed_niLots (strict10 hn hx) (t.l10 hn) (ed_var rfl) (ed_var rfl))) (fun h => ?_) (fun h => q_next ?_)
  · have h1 : 1 < l.length ∧ l ∉ ns := by simp at h; exact h.2
    refine q_if (b := (ns.filter fun m => crossL m l).isEmpty) (et_is (et_test (ed_op (ed_L (el_lcT (xs := ns) (enc := eLot) (f := eLot) (keep := fun m => crossL m l) (ed_var rfl) (by omega) (fun a _ => nl_Lot a) (fun m hm => et_B (ed_call (ea_cons (ed_var rfl) (ea_cons (ed_var rfl) ea_nil)) ?_)) (fun m _ _ => ed_var rfl) fun m _ _ => nl_Lot m)) (ed_L (el_lst ea_nil (by simp))) (rd_eq ?_ (by decide)))) (by rw [eqv_nilL]; simp)) (fun h2 => ?_) (fun h2 => q_next ?_)
    · exact ⟨m, l, rfl, by have := t.ll hm; omega, rfl⟩
    · exact sh_lots (ls := ns.filter fun m => crossL m l) fun m hm => t.l10 hn m (List.mem_filter.mp hm).1
    · refine q_ret (d := eTree n (sortL (ns ++ [l]))) ?_ (done _ (t.add hs hx h1.1 h1.2 fun m hm => ?_))
      · refine ed_tup (ea_cons (ed_var rfl) (ea_cons (d := eLots (sortL (ns ++ [l]))) (ed_cb (ea_cons (ed_L (el_rankT (l := ns ++ [l]) (ed_is (ed_op (x := eLots ns) (y := eLots [l]) (ed_var rfl) (ed_tup (ea_cons (ed_var rfl) ea_nil) (by simp)) (rd_catT (by simp; omega))) (by simp [eLots])))) ea_nil) rc_tupL) ea_nil)) (by simp)
      · have := List.isEmpty_iff.mp h2
        have := List.filter_eq_nil_iff.mp this m hm
        simpa using this
    · exact fun σ H a => last σ H a
  exact fun σ H a => last σ H a
end
end Fk
/-! trees as data; more rules with effects -/
namespace Fk
open PySem PySem.Spec PyProof.Rows L2
theorem weightAll_le {ds : List PyData} {k : Nat} (h : ∀ d ∈ ds, d.weight ≤ k) : PyData.weightAll ds ≤ ds.length * (k + 1) := by
  induction ds with
  | nil => simp [PyData.weightAll]
  | cons d ds ih =>
    have h1 := h d (by simp)
    have h2 := ih fun x hx => h x (by simp [hx])
    simp only [PyData.weightAll, List.length_cons, Nat.succ_mul]
    omega
theorem depthAll_le {ds : List PyData} {k : Nat} (h : ∀ d ∈ ds, d.depth ≤ k) : PyData.depthAll ds ≤ k := by
  induction ds with
  | nil => simp [PyData.depthAll]
  | cons d ds ih =>
    have h1 := h d (by simp)
    have h2 := ih fun x hx => h x (by simp [hx])
    simp only [PyData.depthAll]
    omega
/-- small, of depth at most k, of weight at most w -/
structure OkW (d : PyData) (k w : Nat) : Prop where
  s : smallI d = true
  dp : d.depth ≤ k
  wt : d.weight ≤ w
theorem OkW.ok {d : PyData} {k w : Nat} (h : OkW d k w) (hk : k ≤ 60) (hw : w ≤ 1000000) : okD d = true := okD_iff.mpr ⟨h.s, Nat.le_trans h.dp hk, Nat.le_trans h.wt hw⟩
theorem OkW.mono {d : PyData} {k w k' w' : Nat} (h : OkW d k w) (hk : k ≤ k') (hw : w ≤ w') : OkW d k' w' := ⟨h.s, Nat.le_trans h.dp hk, Nat.le_trans h.wt hw⟩
theorem okw_I {n : Nat} (h : n < 1000000) : OkW (eI n) 0 20 := ⟨by simp [smallI, eI]; omega, by simp [PyData.depth, eI], by
  simp only [PyData.weight, eI]
  split
  · omega
  · have e : ((n : Int)).natAbs = n := Int.natAbs_natCast n
    rw [e]
    rcases Nat.eq_zero_or_pos n with h0 | h0
    · subst h0; decide
    have h1 : n.log2 < 20 := (Nat.log2_lt (by omega)).mpr (by omega)
    omega⟩
theorem okw_tup {ds : List PyData} {k w m : Nat} (h : ∀ d ∈ ds, OkW d k w) (hl : ds.length ≤ m) : OkW (.tuple ds) (k + 1) (m * (w + 1)) := ⟨by
  simp only [smallI]; exact smallIs_iff.mpr fun d hd => (h d hd).s, by
  have := depthAll_le fun d hd => (h d hd).dp
  simp only [PyData.depth]; omega, by
  have h1 := weightAll_le fun d hd => (h d hd).wt
  have h2 : ds.length * (w + 1) ≤ m * (w + 1) := Nat.mul_le_mul_right _ hl
  simp only [PyData.weight]; omega⟩
theorem okw_lst {ds : List PyData} {k w m : Nat} (h : ∀ d ∈ ds, OkW d k w) (hl : ds.length ≤ m) : OkW (.list ds) (k + 1) (m * (w + 1)) := ⟨by
  simp only [smallI]; exact smallIs_iff.mpr fun d hd => (h d hd).s, by
  have := depthAll_le fun d hd => (h d hd).dp
  simp only [PyData.depth]; omega, by
  have h1 := weightAll_le fun d hd => (h d hd).wt
  have h2 : ds.length * (w + 1) ≤ m * (w + 1) := Nat.mul_le_mul_right _ hl
  simp only [PyData.weight]; omega⟩
theorem okw_lot {l : Lot} (h : Lt10 l) (hl : l.length ≤ 10) : OkW (eLot l) 1 210 := okw_tup (k := 0) (w := 20) (m := 10) (by
  intro d hd
  obtain ⟨x, hx, rfl⟩ := List.mem_map.mp hd
  exact okw_I (by have := h x hx; omega)) (by simpa using hl)
theorem okw_tree {n : Nat} {ns : List Lot} (t : Tree n ns) (hn : n ≤ 9) : OkW (eTree n ns) 3 300000 := by
  have h1 : OkW (eLots ns) 2 (512 * 211) := okw_tup (k := 1) (w := 210) (by
    intro d hd
    obtain ⟨l, hl, rfl⟩ := List.mem_map.mp hd
    exact okw_lot (t.l10 hn l hl) (by have := t.ll hl; omega)) (by simpa using t.len hn)
  have h2 : OkW (eTree n ns) 3 (2 * (512 * 211 + 1)) := okw_tup (k := 2) (w := 512 * 211) (by
    intro d hd
    rcases List.mem_cons.mp hd with rfl | hd
    · exact (okw_I (by omega)).mono (by omega) (by omega)
    · rw [List.mem_singleton.mp hd]; exact h1) (by simp)
  exact h2.mono (by omega) (by omega)
theorem okw_trees {n : Nat} {ts : List (List Lot)} (hn : n ≤ 9) (h : ∀ ms ∈ ts, Tree n ms) (hl : ts.length ≤ 3) : OkW (.list (ts.map (eTree n))) 4 (3 * 300001) := okw_lst (k := 3) (w := 300000) (by
  intro d hd
  obtain ⟨ms, hm, rfl⟩ := List.mem_map.mp hd
  exact okw_tree (h ms hm) hn) (by simpa using hl)
theorem Tree.sub {n : Nat} {ns ms : List Lot} (t : Tree n ns) (h : ms.Sublist ns) (hw : 2 ≤ n → List.range n ∈ ms) : Tree n ms :=
  ⟨t.sorted.sublist h, t.nodup.sublist h, fun l hl => t.mem l (h.subset hl), fun a ha b hb => t.lam a (h.subset ha) b (h.subset hb), hw⟩
/-- the whole lot's nest alone -/
def bushL (ns : List Lot) : List Lot := ns.drop (ns.length - 1)
theorem Tree.bush {n : Nat} {ns : List Lot} (t : Tree n ns) : Tree n (bushL ns) := by
  refine t.sub (List.drop_sublist _ _) fun h => ?_
  have hne : ns ≠ [] := fun e => by have := t.whole h; rw [e] at this; cases this
  obtain ⟨ks, rfl⟩ := t.last hne
  simp [bushL]
theorem cut_last {ds : List PyData} : cutD ds (some (-1)) none = ds.drop (ds.length - 1) := by
  unfold cutD
  have e : HT.sIx ds.length 0 (some (-1)) = ds.length - 1 := by
    show (if (-1 : Int) < 0 then ((-1 : Int) + (ds.length : Int)).toNat else min (-1 : Int).toNat ds.length) = _
    rw [if_pos (by decide)]; omega
  rw [e, HT.sIx_none]
  exact List.take_of_length_le (by rw [List.length_drop]; exact Nat.le_refl _)
section
variable {K : PySem.W.Frag} {B H H' : Hp} {S : Addr → Prop} {Z : Hp → Prop} {ρ ρ' : List Sl} {σ : L2.St} {te ta tb tc ti : TE} {tz : TS} {D : Ends} {ds es : List PyData} {d : PyData} {st lf ln : Addr}
theorem ed_bush {n : Nat} {ns : List Lot} (h : EvD K B te ρ (eTree n ns)) : EvD K B (tSl (rSlA K) (tOp (rIxT K) te (tC (.int 1))) (tPart (tUn (rU fun i => .int (-i)) (tC (.int 1)))) tNoPart) ρ (eLots (bushL ns)) :=
  ed_is (ed_slT (ed_nests h) (eo_some (ed_un ed_int ru_neg)) eo_none) (by rw [cut_last, List.length_map]; simp [eLots, bushL])
/-- lists in a list -/
def EvRows (K : PySem.W.Frag) (B : Hp) (ta : TA) (ρ : List Sl) (rows : List (List PyData)) : Prop := ∀ σ H, Ex B H → EnvOk K B H σ ρ → ∀ Q : List V → Hp → Prop, (∀ vs H2, Ex H H2 → Paired (fun v row => ∃ p ws, v = V.ref p ∧ H p = none ∧ H2 p = some (.lst ws) ∧ DpAll K H2 ws row) vs rows → Q vs H2) → ta σ H Q
theorem er_nil : EvRows K B tNil ρ [] := fun σ H eb ok Q q => q [] H Ex.rf .nil
theorem er_cons {tr : TA} {rows : List (List PyData)} (h : EvL K B te ρ ds) (hr : EvRows K B tr ρ rows) : EvRows K B (tCons te tr) ρ (ds :: rows) := fun σ H eb ok Q q =>
  h σ H eb ok _ fun p ws H1 e1 hp h1 h2 => hr σ H1 (eb.tr e1) (ok.ex e1) _ fun vs H2 e2 hv => q (.ref p :: vs) H2 (e1.tr e2) (.cons ⟨p, ws, rfl, hp, e2 _ _ h1, dps_ex e2 _ _ h2⟩ (Paired.mapP hv fun v row ⟨p, ws, e, hp, h1, h2⟩ => ⟨p, ws, e, Evl.fresh_back e1 hp, h1, h2⟩))
theorem paired_get {α β : Type} {R : α → β → Prop} : ∀ {as : List α} {bs : List β} {k : Nat} {b : β}, Paired R as bs → bs[k]? = some b → ∃ a, as[k]? = some a ∧ R a b
  | _, _, _, _, .nil, h => by simp at h
  | _, _, 0, _, .cons r _, h => by simp at h; subst h; exact ⟨_, rfl, r⟩
  | _, _, k + 1, _, .cons _ t, h => by simpa using paired_get t (by simpa using h)
theorem paired_len {α β : Type} {R : α → β → Prop} : ∀ {as : List α} {bs : List β}, Paired R as bs → as.length = bs.length
  | _, _, .nil => rfl
  | _, _, .cons _ t => by simp [paired_len t]
theorem el_rowIx {rows : List (List PyData)} {k : Nat} {row : List PyData} {tr : TA} (h : EvRows K B tr ρ rows) (hl : rows.length ≤ 1000) (hi : EvD K B ti ρ (eI k)) (hk : rows[k]? = some row) : EvL K B (tOp (rIxL K) (tLst tr) ti) ρ row := fun σ H eb ok Q q =>
  h σ H eb ok _ fun vs H1 e1 hv => by
    have hvl := paired_len hv
    refine ⟨sz_of (by omega), fun c hc => ?_⟩
    have ec : Ex H1 (L2.upd H1 c (.lst vs)) := Evl.Ex.new hc
    refine hi σ _ (eb.tr (e1.tr ec)) (ok.ex (e1.tr ec)) _ fun u H2 e2 hu => ?_
    obtain rfl := dp_int hu
    obtain ⟨v, hvk, p, ws, rfl, hp, h1, h2⟩ := paired_get hv hk
    refine ⟨c, vs, (k : Int), .ref p, rfl, rfl, SqL.of (e2 _ _ upd_same), ?_, ?_⟩
    · unfold atI
      rw [Evl.ixN_nat (List.getElem?_eq_some_iff.mp hvk).1]
      exact hvk
    · exact q p ws H2 ((e1.tr ec).tr e2) hp (e2 _ _ (ec _ _ h1)) (dps_ex e2 _ _ (dps_ex ec _ _ h2))
variable [zk : ZK S Z]
theorem ex_tupL {Po : List PyData → Prop} (h : EvXL K B S Z te ρ Po) : EvX K B S Z (tCB (rTupS K) (tCons te tNil)) ρ fun d ρ' => (∃ es, Po es ∧ d = .tuple es) ∧ ρ' = ρ := fun σ H a Q q =>
  h σ H a _ fun p vs H1 es pe tx a1 np h1 h2 => ⟨p, vs, rfl, .inl ⟨SqL.of h1, fun l hl => q _ _ _ ρ ⟨⟨es, pe, rfl⟩, rfl⟩ (tx.trans (TX.of (Evl.Ex.new hl))) (a1.ex (Evl.Ex.new hl)) (.tup (SqT.of upd_same) (dps_ex (Evl.Ex.new hl) _ _ h2))⟩⟩
/-- a, b, c = two drawn values, a new list -/
theorem q_par3DDL {i1 i2 i3 : Nat} {Pa Pb : PyData → List Sl → Prop} (ha : EvX K B S Z ta ρ Pa) (na : ∀ d ρ', Pa d ρ' → noL d = true) (hb : ∀ d ρ', Pa d ρ' → EvX K B S Z tb ρ' Pb) (nb : ∀ d ρ', Pb d ρ' → noL d = true) (hc : ∀ d ρ', Pb d ρ' → EvL K B tc ρ' es) (ne : noLs es = true)
    (k : ∀ x y ρ1 ρ2, Pa x ρ1 → Pb y ρ2 → ∀ p, New B S ρ2 p → TrR K B S Z tz (((ρ2.set i1 (.d x)).set i2 (.d y)).set i3 (.l p es)) D) :
    TrR K B S Z (tSeq (tPar3 i1 i2 i3 (tCons ta (tCons tb (tCons tc tNil)))) tz) ρ D := fun σ H a =>
  ha σ H a _ fun v H1 x ρ1 p1 tx1 a1 hv => hb x ρ1 p1 σ H1 a1 _ fun u H2 y ρ2 p2 tx2 a2 hu => hc y ρ2 p2 σ H2 a2.eb a2.ok _ fun p ws H3 e hp h1 h2 =>
    ⟨_, _, _, rfl, k x y ρ1 ρ2 p1 p2 p (a2.new hp) _ _ ((((a2.ex e).set (i := i1) (sd (na x ρ1 p1) (dp_ex e _ _ (dp_tx tx2 _ _ (na x ρ1 p1) hv)))).set (i := i2) (sd (nb y ρ2 p2) (dp_ex e _ _ hu))).set (i := i3) (s := .l p es) ⟨rfl, ws, h1, h2, ne⟩)⟩
end
end Fk
/-! the walks, 20: three trees -/
namespace Fk
open PySem PySem.Spec PyProof.Rows L2
section
variable {K : PySem.W.Frag} {B : Hp} {S : Addr → Prop} {Z : Hp → Prop} {ρ : List Sl} {t : TT} {tu tv tz : TS} {D : Ends} [zk : ZK S Z]
theorem q_ifJ {b : Bool} (P : List Sl → Prop) (h : EvT K B t ρ b) (h1 : b = true → (∀ ρ', P ρ' → TrR K B S Z tNext ρ' { D with nx := tz D }) → TrR K B S Z tu ρ { D with nx := tz D }) (h2 : b = false → (∀ ρ', P ρ' → TrR K B S Z tNext ρ' { D with nx := tz D }) → TrR K B S Z tv ρ { D with nx := tz D }) (k : ∀ ρ', P ρ' → TrR K B S Z tz ρ' D) : TrR K B S Z (tSeq (tIfS t tu tv) tz) ρ D :=
  q_if h (fun e => h1 e fun ρ' p σ H a => k ρ' p σ H a) (fun e => h2 e fun ρ' p σ H a => k ρ' p σ H a)
end
section
variable {P : Program} {w : World} {K : PySem.W.Frag} {mg : Str → Option Value} {base : Heap}
def R__law_world (ds : List PyData) (d : PyData) : Prop := ∃ (n : Nat) (a b c : List Lot), ds = [eI n, eI 3] ∧ 0 < n ∧ n ≤ 9 ∧ Tree n a ∧ Tree n b ∧ Tree n c ∧ d = .tuple [eTree n a, eTree n b, eTree n c]
abbrev sp__law_world (K : PySem.W.Frag) : Sp := spZ K R__law_world
theorem len__law_world : ∀ ds es, R__law_world ds es → ds.length + 1 = 3 := by rintro ds d ⟨n, a, b, c, rfl, _⟩; rfl
theorem nl__law_world : ∀ ds es, R__law_world ds es → noLs ds = true := by rintro ds d ⟨n, a, b, c, rfl, _⟩; rfl
def menus : List (List Nat) := [[0, 0, 3], [1, 1, 2], [0, 1, 2], [4, 4, 2], [4, 4, 1], [0, 5]]
theorem menus_ne : ∀ k, k < 6 → ∃ m, menus[k]? = some m ∧ m ≠ [] ∧ m.length < 1000 := by decide
theorem tree_wit {n : Nat} (wide : Nat) (h0 : 0 < n) : ∃ ns, Tree n ns ∧ (wide = 2 → ns.length + 1 = n) := by
  have : ∀ n : Nat, ∃ ps ns, TI (n + 1) 2 ps ns ∧ ps.length = 1 := by
    have step : ∀ k n ps ns, TI n 2 ps ns → ps.length = k + 1 → ∃ ps ns, TI n 2 ps ns ∧ ps.length = 1 := by
      intro k
      induction k with
      | zero => exact fun n ps ns t h => ⟨ps, ns, t, h⟩
      | succ k ih =>
        intro n ps ns t h
        match ps, h with
        | p :: q :: ps, h =>
          have l0 := ti_pop t (k := 0) (p := p) rfl
          have l1 := li_step l0 (k := 0) (p := q) rfl
          have l2 := li_end l1 (by decide) fun _ => rfl
          exact ih n _ _ l2 (by simp at h ⊢; omega)
    exact fun n => step n (n + 1) _ _ (ti_start (n + 1) 2) (by simp)
  obtain ⟨m, rfl⟩ : ∃ m, n = m + 1 := ⟨n - 1, by omega⟩
  obtain ⟨ps, ns, t, h⟩ := this m
  exact ⟨sortL ns, ti_tree t (by omega), fun _ => by have := t.cnt rfl; rw [sortL_len]; omega⟩
theorem tree_of {n k : Nat} {d : PyData} (h : R__law_tree [eI n, eI k] d) : ∃ ns, Tree n ns ∧ (k = 2 → ns.length + 1 = n) ∧ d = eTree n ns := by
  obtain ⟨m, k', ns, he, _, _, _, h1, h2, rfl⟩ := h
  have h := List.cons.inj he
  obtain rfl := eI_inj h.1
  obtain rfl := eI_inj (List.cons.inj h.2).1
  exact ⟨ns, h1, h2, rfl⟩
theorem eTree_inj {n m : Nat} {a b : List Lot} (h : eTree n a = eTree m b) : n = m ∧ a.map eLot = b.map eLot := by
  unfold eTree eLots at h
  injection h with h
  have h := List.cons.inj h
  have h2 := (List.cons.inj h.2).1
  injection h2 with h2
  exact ⟨eI_inj h.1, h2⟩
theorem near_of {n : Nat} {ns : List Lot} {d : PyData} (h : R__law_near [eTree n ns] d) : ∃ ms, Tree n ms ∧ d = eTree n ms := by
  obtain ⟨m, ns', ms, he, _, _, _, h1, rfl⟩ := h
  obtain ⟨rfl, _⟩ := eTree_inj (List.cons.inj he).1
  exact ⟨ms, h1, rfl⟩
-- slots: _law_store_here:0c _law_size:1c _law_tall:2 _law_base:3 _law_menu:4 _law_turn:5 _law_mode:6 _law_wide:7 _law_found:8 _law_way:9 _law_own:10 _law_nest:11  level 6
abbrev N__law_world : List Str := ["_law_store_here", "_law_size", "_law_tall", "_law_base", "_law_menu", "_law_turn", "_law_mode", "_law_wide", "_law_found", "_law_way", "_law_own", "_law_nest"]
theorem sc__law_world : FnScope N__law_world ["_law_store_here", "_law_size", "_law_tall"] (defScope s__law_world) := ⟨rfl, rfl, rfl, by decide +kernel, rfl, by decide +kernel, by decide +kernel⟩
theorem bd__law_world : BindsBy "_law_world" s__law_world ["_law_store_here", "_law_size", "_law_tall"] := fun _ _ _ _ _ _ us hl => match us, hl with | [_, _, _], _ => rfl
theorem ok__law_world (F : Here K mg "_law_world" s__law_world) (bs : Bs mg) (h__law_draw : Ok P w K mg base 1 "_law_draw" ["_law_store_here", "_law_size"] (sp__law_draw K)) (h__law_near : Ok P w K mg base 5 "_law_near" ["_law_store_here", "_law_own"] (sp__law_near K)) (h__law_pick : Ok P w K mg base 2 "_law_pick" ["_law_store_here", "_law_row"] (sp__law_pick K)) (h__law_tree : Ok P w K mg base 4 "_law_tree" ["_law_store_here", "_law_size", "_law_wide"] (sp__law_tree K)) : Ok P w K mg base 6 "_law_world" ["_law_store_here", "_law_size", "_law_tall"] (sp__law_world K) := by
  have nd := sc__law_world.nd
  refine mkG F sc__law_world bd__law_world (lenZ len__law_world) fun f cdv A outer s H E hg hr => ⟨_, (pss_cons (ps_par3 (i := 6) (j := 7) (l := 8) rfl nd rfl rfl rfl (by decide) (by decide) (by decide) rfl rfl rfl (pa_cons (pe_callN h__law_draw hg (hr.mono (by decide)) rfl (pa_cons (pv 0) (pa_cons pe_int pa_nil))) (pa_cons (pe_callN h__law_pick hg (hr.mono (by decide)) rfl (pa_cons (pv 0) (pa_cons (pe_lst (pa_cons pe_int (pa_cons pe_int (pa_cons pe_int pa_nil)))) pa_nil))) (pa_cons (pe_lst pa_nil) pa_nil))) rfl)
    (pss_cons (ps_set (i := 3) nd rfl (Or.inl rfl) (pe_callN h__law_tree hg (hr.mono (by decide)) rfl (pa_cons (pv 0) (pa_cons (pv 1) (pa_cons (pv 7) pa_nil)))))
    (pss_cons (ps_set (i := 4) nd rfl (Or.inl rfl) (pe_ix (ix_lk K rfl) (pe_lst (pa_cons (pe_lst (pa_cons pe_int (pa_cons pe_int (pa_cons pe_int pa_nil)))) (pa_cons (pe_lst (pa_cons pe_int (pa_cons pe_int (pa_cons pe_int pa_nil)))) (pa_cons (pe_lst (pa_cons pe_int (pa_cons pe_int (pa_cons pe_int pa_nil)))) (pa_cons (pe_lst (pa_cons pe_int (pa_cons pe_int (pa_cons pe_int pa_nil)))) (pa_cons (pe_lst (pa_cons pe_int (pa_cons pe_int (pa_cons pe_int pa_nil)))) (pa_cons (pe_lst (pa_cons pe_int (pa_cons pe_int pa_nil))) pa_nil))))))) (pv 6) (fun _ _ => rfl)))
    (pss_cons (ps_for PassesOwn.never rfl (pi_range1 rfl bs.range (pa_cons (pv 2) pa_nil)) (pg_name (i := 5) nd rfl (Or.inl rfl)) (pss_cons (ps_par (i := 9) (j := 10) rfl nd rfl rfl (by decide) rfl rfl (pa_cons (pe_callN h__law_pick hg (hr.mono (by decide)) rfl (pa_cons (pv 0) (pa_cons (pv 4) pa_nil))) (pa_cons (pv 3) pa_nil)) rfl)
    (pss_cons (ps_if (pt_cmpR (op_nek K rfl hr.units) (pv 8) (pe_lst pa_nil) (nomark _)) (pss_cons (ps_set (i := 10) nd rfl (Or.inl rfl) (pe_callN h__law_pick hg (hr.mono (by decide)) rfl (pa_cons (pv 0) (pa_cons (pv 8) pa_nil))))
    pss_nil) pss_nil)
    (pss_cons (ps_if (pt_cmpR (op_eqk K rfl hr.units) (pv 9) pe_int (nomark _)) (pss_cons (ps_set (i := 10) nd rfl (Or.inl rfl) (pe_callN h__law_tree hg (hr.mono (by decide)) rfl (pa_cons (pv 0) (pa_cons (pv 1) (pa_cons (pv 7) pa_nil)))))
    pss_nil) (pss_cons (ps_if (pt_cmpR (op_eqk K rfl hr.units) (pv 9) pe_int (nomark _)) (pss_cons (ps_set (i := 10) nd rfl (Or.inl rfl) (pe_callN h__law_near hg hr rfl (pa_cons (pv 0) (pa_cons (pv 10) pa_nil))))
    pss_nil) (pss_cons (ps_if (pt_cmpR (op_eqk K rfl hr.units) (pv 9) pe_int (nomark _)) (pss_cons (ps_set (i := 10) nd rfl (Or.inl rfl) (pe_tup (pa_cons (pv 1) (pa_cons (pe_slice (sl_tk K rfl) (pe_ix (ix_tk K rfl) (pv 10) pe_int (fun _ _ => rfl)) (po_some (pe_un un_neg pe_int)) po_none) pa_nil))))
    pss_nil) (pss_cons (ps_if (pt_cmpR (op_eqk K rfl hr.units) (pv 9) pe_int (nomark _)) (pss_cons (ps_set (i := 10) nd rfl (Or.inl rfl) (pe_tup (pa_cons (pv 1) (pa_cons (pe_callTy (cr_tupk K rfl) rfl bs.tuple boot_tuple (pa_cons (pe_lc (own := [("_law_nest", 11)]) rfl nd (pi_tk K rfl (pe_ix (ix_tk K rfl) (pv 3) pe_int (fun _ _ => rfl))) (blk1 rfl rfl rfl rfl rfl) (fun _ _ _ _ _ => pg_name (i := 11) nd rfl (by first | exact Or.inl rfl | exact Or.inr rfl)) (fun _ _ _ _ _ => pts_one (PW.pt (pw_or (pt_cmpR (op_eqk K rfl hr.units) (pe_callB (cr_lenk K rfl) rfl bs.len boot_len (pa_cons (pv 11) pa_nil)) (pv 1) (nomark _)) (pw_or1 (pt_cmpR (op_eqk K rfl hr.units) (pe_callN h__law_draw hg (hr.mono (by decide)) rfl (pa_cons (pv 0) (pa_cons pe_int pa_nil))) pe_int (nomark _)))))) (fun _ _ _ _ _ => (pv 11))) pa_nil)) pa_nil))))
    pss_nil) (pss_cons (ps_if (pt_cmpR (op_eqk K rfl hr.units) (pv 9) pe_int (nomark _)) (pss_cons (ps_set (i := 10) nd rfl (Or.inl rfl) (pv 3))
    pss_nil) pss_nil)
    pss_nil))
    pss_nil))
    pss_nil))
    pss_nil))
    (pss_cons (ps_expr (pe_bm PySem.F.plainAttrs_list PySem.F.slot_list_append PySem.F.type_list_append mt_append (pv 8) (pa_cons (pv 10) pa_nil)))
    pss_nil)))))
    (pss_cons (ps_ret (pe_callTy (cr_tupk K rfl) rfl bs.tuple boot_tuple (pa_cons (pv 8) pa_nil)))
    pss_nil))))), runZ nl__law_world fun B st lf ln ds hR zs D hD => ?_⟩
  obtain ⟨d0, n, _, _, _, rfl, hn0, hn, _⟩ := hR
  show TrR K B _ _ _ [.r st, .d (eI n), .d (eI 3), .un, .un, .un, .un, .un, .un, .un, .un, .un] _
  refine q_par3DDL (es := []) (Pa := fun d ρ' => ∃ r, r < 6 ∧ d = eI r ∧ ρ' = [.r st, .d (eI n), .d (eI 3), .un, .un, .un, .un, .un, .un, .un, .un, .un]) (Pb := fun d ρ' => ∃ r, (2 ≤ r ∧ r < 10) ∧ d = eI r ∧ ρ' = [.r st, .d (eI n), .d (eI 3), .un, .un, .un, .un, .un, .un, .un, .un, .un]) (ex_draw (n := 6) zs rfl ed_int (by decide) (by decide) (by simp [adrs]) (by simp [noT]) fun r hr => ⟨r, hr, rfl, rfl⟩) (by rintro d ρ' ⟨r, _, rfl, _⟩; rfl) ?_ (by rintro d ρ' ⟨r, _, rfl, _⟩; rfl) (fun d ρ' _ => el_lst ea_nil (by simp)) rfl fun x y ρ1 ρ2 h1 h2 q nq => ?_
  · rintro d ρ' ⟨r, _, rfl, rfl⟩
    refine ex_w (ex_pickN (es := [eI 2, eI 3, eI 9]) zs ⟨by simp [adrs], by simp [noT]⟩ rfl (el_lst (ea_cons ed_int (ea_cons ed_int (ea_cons ed_int ea_nil))) (by simp)) rfl (by simp) (by simp)) ?_
    rintro d ρ' ⟨⟨k, hk⟩, rfl⟩
    match k, hk with
    | 0, hk => exact ⟨2, by decide, (Option.some.inj hk).symm, rfl⟩
    | 1, hk => exact ⟨3, by decide, (Option.some.inj hk).symm, rfl⟩
    | 2, hk => exact ⟨9, by decide, (Option.some.inj hk).symm, rfl⟩
    | k + 3, hk => simp at hk
  obtain ⟨mode, hmode, rfl, rfl⟩ := h1
  obtain ⟨wide, hwide, rfl, rfl⟩ := h2
  show TrR K B _ _ _ [.r st, .d (eI n), .d (eI 3), .un, .un, .un, .d (eI mode), .d (eI wide), .l q [], .un, .un, .un] _
  refine q_asgX (ex_call (R := R__law_tree) (ds := [eI n, eI wide]) zs ⟨by simp [adrs]; exact nq.s, by simp [noT]⟩ rfl (ea_cons (ed_var rfl) (ea_cons (ed_var rfl) ea_nil)) ?_) fun d ρ' hp => ?_
  · obtain ⟨ns, t, hw⟩ := tree_wit wide hn0
    exact ⟨_, n, wide, ns, rfl, hn0, hn, hwide.1, t, hw, rfl⟩
  obtain ⟨hd, rfl⟩ := hp
  obtain ⟨bs0, tb, _, rfl⟩ := tree_of hd
  refine ⟨nl_Tree _ _, ?_⟩
  show TrR K B _ _ _ [.r st, .d (eI n), .d (eI 3), .d (eTree n bs0), .un, .un, .d (eI mode), .d (eI wide), .l q [], .un, .un, .un] _
  obtain ⟨menu, hmenu, mne, mlen⟩ := menus_ne mode hmode
  refine q_asgL (ds := menu.map eI) (el_rowIx (rows := menus.map fun m => m.map eI) (k := mode) ?_ (by decide) (ed_var rfl) (by rw [List.getElem?_map, hmenu]; rfl)) (nls_I _) fun pm npm => ?_
  · exact er_cons (el_lst (ea_cons ed_int (ea_cons ed_int (ea_cons ed_int ea_nil))) (by simp)) (er_cons (el_lst (ea_cons ed_int (ea_cons ed_int (ea_cons ed_int ea_nil))) (by simp)) (er_cons (el_lst (ea_cons ed_int (ea_cons ed_int (ea_cons ed_int ea_nil))) (by simp)) (er_cons (el_lst (ea_cons ed_int (ea_cons ed_int (ea_cons ed_int ea_nil))) (by simp)) (er_cons (el_lst (ea_cons ed_int (ea_cons ed_int (ea_cons ed_int ea_nil))) (by simp)) (er_cons (el_lst (ea_cons ed_int (ea_cons ed_int ea_nil)) (by simp)) er_nil)))))
  have hpq : pm ≠ q := fun e => npm.a q (by simp [adrs]) e.symm
  have notS : ∀ a, a = pm ∨ a = q → ¬ StS st lf ln a := fun a h => h.elim (fun e => e ▸ npm.s) (fun e => e ▸ nq.s)
  refine q_forR (n := 3) (j := 5) (ea_cons (ed_var rfl) ea_nil) (by omega) (fun i ρ => ∃ (ts : List (List Lot)) (s5 s9 s10 : Sl), ts.length = i ∧ (∀ ms ∈ ts, Tree n ms) ∧ (Pl s5 ∧ Pl s9 ∧ Pl s10) ∧ ρ = [.r st, .d (eI n), .d (eI 3), .d (eTree n bs0), .l pm (menu.map eI), s5, .d (eI mode), .d (eI wide), .l q (ts.map (eTree n)), s9, s10, .un]) ⟨[], .un, .un, .un, rfl, by simp, ⟨trivial, trivial, trivial⟩, rfl⟩ (fun i ρ' hi hp => ?_) fun ρ' hp => ?_
  · obtain ⟨ts, s5, s9, s10, hlen, htr, ⟨_, h9, h10⟩, rfl⟩ := hp
    show TrR K B _ _ _ [.r st, .d (eI n), .d (eI 3), .d (eTree n bs0), .l pm (menu.map eI), .d (eI i), .d (eI mode), .d (eI wide), .l q (ts.map (eTree n)), s9, s10, .un] _
    refine q_parX (Po := fun ds ρ' => ∃ way, ds = [eI way, eTree n bs0] ∧ ρ' = [.r st, .d (eI n), .d (eI 3), .d (eTree n bs0), .l pm (menu.map eI), .d (eI i), .d (eI mode), .d (eI wide), .l q (ts.map (eTree n)), s9, s10, .un]) (ax_cons (ex_pickV (es := menu.map eI) (p := pm) zs ⟨by intro a ha; apply notS; simpa [adrs, adrs_pl h9, adrs_pl h10] using ha, by simp [noT, noT_pl h9, noT_pl h10]⟩ rfl rfl npm.s (by simpa using mne) (by simpa using mlen)) ?_ ?_) fun ds ρ' hp => ?_
    · rintro d ρ' ⟨⟨k, hk⟩, _⟩
      rw [List.getElem?_map] at hk
      cases hm : menu[k]? with
      | none => rw [hm] at hk; cases hk
      | some x => rw [hm] at hk; cases hk; rfl
    · rintro d ρ' ⟨⟨k, hk⟩, rfl⟩ σ H a Q q'
      rw [List.getElem?_map] at hk
      cases hm : menu[k]? with
      | none => rw [hm] at hk; cases hk
      | some x =>
        rw [hm] at hk; cases hk
        exact ax_a (ea_cons (ed_var rfl) ea_nil) σ H a Q fun vs H2 ds ρ2 p2 => q' vs H2 ds ρ2 (by obtain ⟨rfl, rfl⟩ := p2; exact ⟨x, rfl, rfl⟩)
    obtain ⟨way, rfl, rfl⟩ := hp
    refine ⟨_, _, rfl, rfl, nl_Tree _ _, ?_⟩
    show TrR K B _ _ _ [.r st, .d (eI n), .d (eI 3), .d (eTree n bs0), .l pm (menu.map eI), .d (eI i), .d (eI mode), .d (eI wide), .l q (ts.map (eTree n)), .d (eI way), .d (eTree n bs0), .un] _
    have shT : SeqAt.shaped (.list (ts.map (eTree n))) = true := okD_shaped ((okw_trees hn htr (by omega)).ok (by decide) (by decide))
    have nlT : noLs (ts.map (eTree n)) = true := noLs_map fun _ _ => nl_Tree _ _
    refine q_ifJ (P := fun ρ' => ∃ ms, Tree n ms ∧ ρ' = [.r st, .d (eI n), .d (eI 3), .d (eTree n bs0), .l pm (menu.map eI), .d (eI i), .d (eI mode), .d (eI wide), .l q (ts.map (eTree n)), .d (eI way), .d (eTree n ms), .un]) (b := !(ts.map (eTree n)).isEmpty) (et_test (ed_is (ed_op (ed_varL rfl) (ed_L (el_lst ea_nil (by simp))) (rd_ne shT (by decide))) (by rw [eqv_nilL]))) (fun h J => ?_) (fun h J => J _ ⟨bs0, tb, rfl⟩) ?_
    · have hne : ts.map (eTree n) ≠ [] := by intro e; rw [e] at h; cases h
      refine q_asgX (ex_pickV (es := ts.map (eTree n)) (p := q) zs ⟨by intro a ha; apply notS; simpa [adrs] using ha, by simp [noT]⟩ rfl rfl nq.s hne (by rw [List.length_map]; omega)) fun d ρ' hp => ?_
      obtain ⟨⟨k, hk⟩, rfl⟩ := hp
      rw [List.getElem?_map] at hk
      cases hm : ts[k]? with
      | none => rw [hm] at hk; cases hk
      | some ms =>
        rw [hm] at hk; cases hk
        exact ⟨nl_Tree _ _, J _ ⟨ms, htr ms (List.mem_of_getElem? hm), rfl⟩⟩
    rintro ρ' ⟨ms, tm, rfl⟩
    refine q_ifJ (P := fun ρ' => ∃ ms, Tree n ms ∧ ρ' = [.r st, .d (eI n), .d (eI 3), .d (eTree n bs0), .l pm (menu.map eI), .d (eI i), .d (eI mode), .d (eI wide), .l q (ts.map (eTree n)), .d (eI way), .d (eTree n ms), .un]) (b := decide (way = 0)) (et_test (ed_eqN (b := 0) (ed_var rfl) ed_int)) (fun _ J => ?_) (fun _ J => ?_) ?_
    · refine q_asgX (ex_call (R := R__law_tree) (ds := [eI n, eI wide]) zs ⟨by intro a ha; apply notS; simpa [adrs] using ha, by simp [noT]⟩ rfl (ea_cons (ed_var rfl) (ea_cons (ed_var rfl) ea_nil)) ?_) fun d ρ' hp => ?_
      · obtain ⟨ns, t, hw⟩ := tree_wit wide hn0
        exact ⟨_, n, wide, ns, rfl, hn0, hn, hwide.1, t, hw, rfl⟩
      · obtain ⟨hd, rfl⟩ := hp
        obtain ⟨m2, t2, _, rfl⟩ := tree_of hd
        exact ⟨nl_Tree _ _, J _ ⟨m2, t2, rfl⟩⟩
    · refine q_ifJ (P := fun ρ' => ∃ ms, Tree n ms ∧ ρ' = [.r st, .d (eI n), .d (eI 3), .d (eTree n bs0), .l pm (menu.map eI), .d (eI i), .d (eI mode), .d (eI wide), .l q (ts.map (eTree n)), .d (eI way), .d (eTree n ms), .un]) (b := decide (way = 1)) (et_test (ed_eqN (b := 1) (ed_var rfl) ed_int)) (fun _ J => ?_) (fun _ J => ?_) J
      · refine q_asgX (ex_call (R := R__law_near) (ds := [eTree n ms]) zs ⟨by intro a ha; apply notS; simpa [adrs] using ha, by simp [noT]⟩ rfl (ea_cons (ed_var rfl) ea_nil) ⟨_, n, ms, ms, rfl, hn0, hn, tm, tm, rfl⟩) fun d ρ' hp => ?_
        obtain ⟨hd, rfl⟩ := hp
        obtain ⟨m2, t2, rfl⟩ := near_of hd
        exact ⟨nl_Tree _ _, J _ ⟨m2, t2, rfl⟩⟩
      · refine q_ifJ (P := fun ρ' => ∃ ms, Tree n ms ∧ ρ' = [.r st, .d (eI n), .d (eI 3), .d (eTree n bs0), .l pm (menu.map eI), .d (eI i), .d (eI mode), .d (eI wide), .l q (ts.map (eTree n)), .d (eI way), .d (eTree n ms), .un]) (b := decide (way = 3)) (et_test (ed_eqN (b := 3) (ed_var rfl) ed_int)) (fun _ J => ?_) (fun _ J => ?_) J
        · exact q_asg (d := eTree n (bushL ms)) (ed_tup (ea_cons (ed_var rfl) (ea_cons (ed_bush (ed_var rfl)) ea_nil)) (by simp)) (nl_Tree _ _) (J _ ⟨bushL ms, tm.bush, rfl⟩)
        · refine q_ifJ (P := fun ρ' => ∃ ms, Tree n ms ∧ ρ' = [.r st, .d (eI n), .d (eI 3), .d (eTree n bs0), .l pm (menu.map eI), .d (eI i), .d (eI mode), .d (eI wide), .l q (ts.map (eTree n)), .d (eI way), .d (eTree n ms), .un]) (b := decide (way = 4)) (et_test (ed_eqN (b := 4) (ed_var rfl) ed_int)) (fun _ J => ?_) (fun _ J => ?_) J
          · refine q_asgX (Po := fun d ρ' => ∃ m2, Tree n m2 ∧ d = eTree n m2 ∧ ρ' = [.r st, .d (eI n), .d (eI 3), .d (eTree n bs0), .l pm (menu.map eI), .d (eI i), .d (eI mode), .d (eI wide), .l q (ts.map (eTree n)), .d (eI way), .d (eTree n ms), .un]) (ex_tup (Pa := fun ds ρ' => ∃ m2, Tree n m2 ∧ ds = [eI n, eLots m2] ∧ ρ' = [.r st, .d (eI n), .d (eI 3), .d (eTree n bs0), .l pm (menu.map eI), .d (eI i), .d (eI mode), .d (eI wide), .l q (ts.map (eTree n)), .d (eI way), .d (eTree n ms), .un]) (ax_cons (ex_d (ed_var rfl)) (by rintro d ρ' ⟨rfl, _⟩; rfl) ?_) ?_) ?_
            · rintro d ρ' ⟨rfl, rfl⟩
              refine ax_cons (ex_tupL (exl_lcT (xs := bs0) (enc := eLot) (must := fun l => decide (l.length = n)) zs ⟨by intro a ha; apply notS; simpa [adrs] using ha, by simp [noT]⟩ (fun a => ⟨by intro a' ha; apply notS; simpa [adrs] using ha, by simp [noT]⟩) (ed_nests (ed_var rfl)) (by have := tb.len hn; omega) (fun _ _ => nl_Lot _) (fun l hl => ?_) fun l hl => ed_var rfl)) ?_ ?_
              · refine tk_or (b := decide (l.length = n)) zs ⟨by intro a' ha; apply notS; simpa [adrs] using ha, by simp [noT]⟩ (et_test (ed_eqN (ed_lenLot (ed_var rfl)) (ed_var rfl))) (tk_draw (n := 2) zs ⟨by intro a' ha; apply notS; simpa [adrs] using ha, by simp [noT]⟩ rfl (by decide) (by decide)) (fun _ _ => rfl) fun h c _ h2 => ?_
                rw [h] at h2; cases h2
              · rintro d ρ' ⟨⟨es, ⟨l, _, _, rfl⟩, rfl⟩, _⟩
                exact nl_Lots l
              · rintro d ρ' ⟨⟨es, ⟨l, hl, hm, rfl⟩, rfl⟩, rfl⟩ σ H a Q q'
                refine ax_a ea_nil σ H a Q fun vs H2 ds ρ2 p2 => q' vs H2 ds ρ2 ?_
                obtain ⟨rfl, rfl⟩ := p2
                exact ⟨l, tb.sub hl fun h => hm _ (tb.whole h) (by simp), rfl, rfl⟩
            · rintro ds ρ' ⟨m2, t2, rfl, rfl⟩
              exact ⟨by simp, m2, t2, rfl, rfl⟩
            · rintro d ρ' ⟨m2, t2, rfl, rfl⟩
              exact ⟨nl_Tree _ _, J _ ⟨m2, t2, rfl⟩⟩
          · refine q_ifJ (P := fun ρ' => ∃ ms, Tree n ms ∧ ρ' = [.r st, .d (eI n), .d (eI 3), .d (eTree n bs0), .l pm (menu.map eI), .d (eI i), .d (eI mode), .d (eI wide), .l q (ts.map (eTree n)), .d (eI way), .d (eTree n ms), .un]) (b := decide (way = 5)) (et_test (ed_eqN (b := 5) (ed_var rfl) ed_int)) (fun _ J => ?_) (fun _ J => J _ ⟨ms, tm, rfl⟩) J
            exact q_asg (d := eTree n bs0) (ed_var rfl) (nl_Tree _ _) (J _ ⟨bs0, tb, rfl⟩)
    · rintro ρ' ⟨ms, tm, rfl⟩
      refine q_app (p := q) rfl (ed_var rfl) (nl_Tree _ _) nq.b nq.s (by rw [List.length_map]; omega) (by simp only [List.map_cons, List.map_nil, put_r, put_d, put_un, put_eq, put_ne hpq]; rfl) (q_lf ⟨ts ++ [ms], .d (eI i), .d (eI way), .d (eTree n ms), by simp [hlen], fun x hx => ?_, ⟨trivial, trivial, trivial⟩, by simp⟩)
      rcases List.mem_append.mp hx with hx | hx
      · exact htr x hx
      · rw [List.mem_singleton.mp hx]; exact tm
  · obtain ⟨ts, s5, s9, s10, hlen, htr, _, rfl⟩ := hp
    match ts, hlen, htr with
    | [a, b, c], _, htr =>
      exact q_ret (d := .tuple [eTree n a, eTree n b, eTree n c]) (ed_cb (ea_cons (ed_varL rfl) ea_nil) rc_tupL) fun v H' e z h => hD _ v H' ⟨n, a, b, c, rfl, hn0, hn, htr a (by simp), htr b (by simp), htr c (by simp), rfl⟩ e z h
end
end Fk
/-! where two trees agree -/
namespace Fk
open PySem PySem.Spec
/-- both trees are the same, cut to h -/
abbrev Agr (a b : List Lot) (h : Lot) : Prop := cutL a h = cutL b h
structure InN (n : Nat) (h : Lot) : Prop where
  s : StrictL h
  lt : ∀ x ∈ h, x < n
theorem InN.nd {n : Nat} {h : Lot} (i : InN n h) : h.Nodup := strict_nodup i.s
theorem InN.len {n : Nat} {h : Lot} (i : InN n h) : h.length ≤ n := strict_len i.s i.lt
theorem InN.filter {n : Nat} {h : Lot} (i : InN n h) (p : Nat → Bool) : InN n (h.filter p) := ⟨i.s.filter p, fun x hx => i.lt x (List.mem_filter.mp hx).1⟩
theorem InN.go {n : Nat} {h : Lot} : h ∈ lotsGo n ↔ InN n h := ⟨fun h => ⟨lotsGo_strict h, (lotsGo_lt _ _ h).1⟩, fun i => lotsGo_all i.s i.lt⟩
theorem inN_range (n : Nat) : InN n (List.range n) := ⟨range_strict n, fun x hx => List.mem_range.mp hx⟩
theorem inN_nil (n : Nat) : InN n [] := ⟨.nil, by simp⟩
def maxN (l : List Nat) : Nat := l.foldl max 0
theorem maxN_ge : ∀ {l : List Nat} {m x : Nat}, x ∈ l ∨ x ≤ m → x ≤ l.foldl max m
  | [], m, x, h => by rcases h with h | h; cases h; exact h
  | y :: l, m, x, h => by
    rw [List.foldl_cons]
    refine maxN_ge ?_
    rcases h with h | h
    · rcases List.mem_cons.mp h with rfl | h
      · right; omega
      · exact .inl h
    · right; omega
theorem maxN_mem : ∀ {l : List Nat} {m : Nat}, l.foldl max m ∈ l ∨ l.foldl max m = m
  | [], m => .inr rfl
  | y :: l, m => by
    rw [List.foldl_cons]
    rcases maxN_mem (l := l) (m := max m y) with h | h
    · exact .inl (List.mem_cons_of_mem _ h)
    · rw [h]
      by_cases hy : m ≤ y
      · left; rw [Nat.max_eq_right hy]; exact List.mem_cons_self
      · right; omega
/-- the greatest agreeing lot inside x and y -/
def gL (n : Nat) (a b : List Lot) (x y : Lot) : Nat := maxN (((lotsGo n).filter fun h => decide (∀ i ∈ h, i ∈ x ∧ i ∈ y) && decide (cutL a h = cutL b h)).map List.length)
theorem gL_ge {n : Nat} {a b : List Lot} {x y h : Lot} (i : InN n h) (hx : ∀ i ∈ h, i ∈ x) (hy : ∀ i ∈ h, i ∈ y) (ag : Agr a b h) : h.length ≤ gL n a b x y :=
  maxN_ge (.inl (List.mem_map.mpr ⟨h, List.mem_filter.mpr ⟨InN.go.mpr i, by
    rw [Bool.and_eq_true, decide_eq_true_eq, decide_eq_true_eq]
    exact ⟨fun j hj => ⟨hx j hj, hy j hj⟩, ag⟩⟩, rfl⟩))
theorem cutL_nil (ns : List Lot) : cutL ns [] = [] := by
  rw [List.eq_nil_iff_forall_not_mem]
  intro x hx
  obtain ⟨h1, nest, _, rfl⟩ := cutL_mem.mp hx
  have : keptL nest [] = [] := by unfold keptL; simp
  rw [this] at h1; simp at h1
theorem gL_ex (n : Nat) (a b : List Lot) (x y : Lot) : ∃ h, InN n h ∧ (∀ i ∈ h, i ∈ x) ∧ (∀ i ∈ h, i ∈ y) ∧ Agr a b h ∧ h.length = gL n a b x y := by
  rcases maxN_mem (l := ((lotsGo n).filter fun h => decide (∀ i ∈ h, i ∈ x ∧ i ∈ y) && decide (cutL a h = cutL b h)).map List.length) (m := 0) with h | h
  · obtain ⟨h', hm, e⟩ := List.mem_map.mp h
    obtain ⟨h1, h2⟩ := List.mem_filter.mp hm
    rw [Bool.and_eq_true, decide_eq_true_eq, decide_eq_true_eq] at h2
    exact ⟨h', InN.go.mp h1, fun i hi => (h2.1 i hi).1, fun i hi => (h2.1 i hi).2, h2.2, e⟩
  · exact ⟨[], inN_nil n, by simp, by simp, by show cutL a [] = cutL b []; rw [cutL_nil, cutL_nil], h.symm⟩
/-- the greatest agreeing lot -/
def bestL (n : Nat) (a b : List Lot) : Nat := gL n a b (List.range n) (List.range n)
def farN (n : Nat) (a b : List Lot) : Nat := n - bestL n a b
theorem best_ge {n : Nat} {a b : List Lot} {h : Lot} (i : InN n h) (ag : Agr a b h) : h.length ≤ bestL n a b := gL_ge i (fun x hx => List.mem_range.mpr (i.lt x hx)) (fun x hx => List.mem_range.mpr (i.lt x hx)) ag
theorem best_ex (n : Nat) (a b : List Lot) : ∃ h, InN n h ∧ Agr a b h ∧ h.length = bestL n a b := by
  obtain ⟨h, h1, _, _, h4, h5⟩ := gL_ex n a b (List.range n) (List.range n)
  exact ⟨h, h1, h4, h5⟩
theorem best_le (n : Nat) (a b : List Lot) : bestL n a b ≤ n := by
  obtain ⟨h, h1, _, e⟩ := best_ex n a b
  rw [← e]; exact h1.len
theorem best_comm (n : Nat) (a b : List Lot) : bestL n a b = bestL n b a := by
  obtain ⟨h, h1, h2, e⟩ := best_ex n a b
  obtain ⟨k, k1, k2, e'⟩ := best_ex n b a
  have := best_ge h1 h2.symm
  have := best_ge k1 k2.symm
  omega
theorem far_comm (n : Nat) (a b : List Lot) : farN n a b = farN n b a := by unfold farN; rw [best_comm]
/-! cutting further -/
theorem kept_mem {m h : Lot} {x : Nat} : x ∈ keptL m h ↔ x ∈ m ∧ x ∈ h := by
  unfold keptL; rw [List.mem_filter, decide_eq_true_eq]
theorem kept_kept {m h k : Lot} (hk : ∀ x ∈ k, x ∈ h) : keptL (keptL m h) k = keptL m k := by
  unfold keptL
  rw [List.filter_filter]
  refine List.filter_congr fun x _ => ?_
  by_cases hx : x ∈ k
  · simp [hx, hk x hx]
  · simp [hx]
theorem kept_len {m h : Lot} : (keptL m h).length ≤ m.length := List.length_filter_le _ _
theorem cut_cut {ns : List Lot} {h k c : Lot} (hk : ∀ x ∈ k, x ∈ h) : c ∈ cutL ns k ↔ 1 < c.length ∧ ∃ d ∈ cutL ns h, c = keptL d k := by
  rw [cutL_mem]
  refine ⟨fun ⟨h1, m, hm, e⟩ => ⟨h1, keptL m h, cutL_mem.mpr ⟨?_, m, hm, rfl⟩, ?_⟩, fun ⟨h1, d, hd, e⟩ => ?_⟩
  · have : c.length ≤ (keptL m h).length := by
      rw [e, ← kept_kept (m := m) hk]
      exact kept_len
    omega
  · rw [kept_kept hk]; exact e
  · obtain ⟨_, m, hm, rfl⟩ := cutL_mem.mp hd
    exact ⟨h1, m, hm, by rw [e, kept_kept hk]⟩
/-- agreeing on h, agreeing on less -/
theorem Agr.sub {a b : List Lot} {h k : Lot} (ag : Agr a b h) (hk : ∀ x ∈ k, x ∈ h) : Agr a b k := cutL_ext fun c => by
  rw [cut_cut hk, cut_cut hk]
  have e : cutL a h = cutL b h := ag
  rw [e]
/-! triangle -/
theorem split_len {α : Type} (p : α → Bool) : ∀ l : List α, l.length = (l.filter p).length + (l.filter fun x => !p x).length
  | [] => rfl
  | x :: l => by
    have ih := split_len p l
    cases h : p x <;> simp [h] <;> omega
theorem inter_len {n : Nat} {h k : Lot} (ih : InN n h) (ik : InN n k) : h.length + k.length ≤ n + (h.filter fun x => decide (x ∈ k)).length := by
  have h1 : h.length = (h.filter fun x => decide (x ∈ k)).length + (h.filter fun x => !decide (x ∈ k)).length := by
    exact split_len _ h
  have h2 : ((h.filter fun x => !decide (x ∈ k)) ++ k).length ≤ (List.range n).length := by
    refine nodup_len (List.nodup_append.mpr ⟨ih.nd.filter _, ik.nd, fun a ha b hb e => ?_⟩) fun x hx => ?_
    · have := (List.mem_filter.mp ha).2
      simp at this
      exact this (e ▸ hb)
    · rcases List.mem_append.mp hx with hx | hx
      · exact List.mem_range.mpr (ih.lt x (List.mem_filter.mp hx).1)
      · exact List.mem_range.mpr (ik.lt x hx)
  rw [List.length_append, List.length_range] at h2
  omega
theorem far_tri (n : Nat) (a b c : List Lot) : farN n a c ≤ farN n a b + farN n b c := by
  obtain ⟨h, h1, h2, e1⟩ := best_ex n a b
  obtain ⟨k, k1, k2, e2⟩ := best_ex n b c
  have l := inter_len h1 k1
  have ag : Agr a c (h.filter fun x => decide (x ∈ k)) := (h2.sub fun x hx => (List.mem_filter.mp hx).1).trans (k2.sub fun x hx => of_decide_eq_true (List.mem_filter.mp hx).2)
  have := best_ge (h1.filter _) ag
  have := best_le n a b
  have := best_le n b c
  have := best_le n a c
  unfold farN
  omega
/-! equal trees -/
theorem cut_whole {n : Nat} {a : List Lot} (t : Tree n a) : cutL a (List.range n) = a := by
  refine sorted_ext (sortL_sorted _) t.sorted (cutL_nodup _ _) t.nodup fun x => ?_
  rw [cutL_mem]
  have ek : ∀ m ∈ a, keptL m (List.range n) = m := fun m hm => List.filter_eq_self.mpr fun x hx => decide_eq_true (List.mem_range.mpr ((t.mem m hm).2.1 x hx))
  refine ⟨fun ⟨_, m, hm, e⟩ => by rw [e, ek m hm]; exact hm, fun h => ⟨(t.mem x h).2.2, x, h, (ek x h).symm⟩⟩
theorem far_zero {n : Nat} {a b : List Lot} (ta : Tree n a) (tb : Tree n b) : farN n a b = 0 ↔ a = b := by
  have hle := best_le n a b
  refine ⟨fun h => ?_, fun h => ?_⟩
  · obtain ⟨h', h1, h2, e⟩ := best_ex n a b
    unfold farN at h
    have : h' = List.range n := strict_full h1.s h1.lt (by omega)
    rw [this] at h2
    have h2 : cutL a (List.range n) = cutL b (List.range n) := h2
    rwa [cut_whole ta, cut_whole tb] at h2
  · subst h
    have := best_ge (inN_range n) (show Agr a a (List.range n) from rfl)
    rw [List.length_range] at this
    unfold farN
    omega
theorem far_two {n : Nat} {a b : List Lot} (ta : Tree n a) (tb : Tree n b) : farN n a b ≤ n - 2 := by
  by_cases hn : 2 ≤ n
  · have i2 : InN n [0, 1] := ⟨by decide, fun x hx => by simp at hx; omega⟩
    have key : ∀ {a : List Lot}, Tree n a → ∀ c, c ∈ cutL a [0, 1] ↔ c = [0, 1] := fun {a} t c => by
      rw [cutL_mem]
      have sub : ∀ m ∈ a, 1 < (keptL m [0, 1]).length → keptL m [0, 1] = [0, 1] := fun m hm h => by
        have hs : StrictL (keptL m [0, 1]) := (t.mem m hm).1.filter _
        refine strict_full (n := 2) hs (fun x hx => ?_) ?_
        · have := (kept_mem.mp hx).2
          simp at this; omega
        · have := strict_len (n := 2) hs (fun x hx => by have := (kept_mem.mp hx).2; simp at this; omega)
          omega
      refine ⟨fun ⟨h1, m, hm, e⟩ => by rw [e] at h1; rw [e]; exact sub m hm h1, fun e => ?_⟩
      have ek : keptL (List.range n) [0, 1] = [0, 1] := strict_ext ((range_strict n).filter _) i2.s fun x => by
        show x ∈ keptL _ _ ↔ _
        rw [kept_mem, List.mem_range]
        exact ⟨fun h => h.2, fun h => ⟨i2.lt x h, h⟩⟩
      exact ⟨by rw [e]; decide, _, t.whole hn, by rw [e, ek]⟩
    have ag : Agr a b [0, 1] := cutL_ext fun c => by rw [key ta, key tb]
    have := best_ge i2 ag
    have e : ([0, 1] : Lot).length = 2 := rfl
    unfold farN
    omega
  · have nil : ∀ {a : List Lot}, Tree n a → a = [] := fun {a} t => List.eq_nil_iff_forall_not_mem.mpr fun m hm => hn (t.two hm)
    have := (far_zero ta tb).mpr (by rw [nil ta, nil tb])
    omega
end Fk
/-! the table's law: the greatest agreeing lot inside two nests, by their parts -/
namespace Fk
open PySem PySem.Spec
structure PartsAt (ns : List Lot) (x : Lot) (po : List Lot) : Prop where
  sub : ∀ p ∈ po, ∀ i ∈ p, i ∈ x
  dis : po.Pairwise fun p q => ∀ i ∈ p, i ∉ q
  cov : po ≠ [] → ∀ i ∈ x, ∃ p ∈ po, i ∈ p
  lam : po ≠ [] → ∀ m ∈ ns, (∃ p ∈ po, ∀ i ∈ m, i ∈ p) ∨ (∀ i ∈ x, i ∈ m) ∨ (∀ i ∈ m, i ∉ x)
  nest : po ≠ [] → x ∈ ns
  pn : ∀ p ∈ po, 1 < p.length → p ∈ ns
  tip : po = [] → ∃ i, x = [i]
  st : ∀ m ∈ ns, StrictL m
def Same (po : List Lot) (i j : Nat) : Prop := ∃ p ∈ po, i ∈ p ∧ j ∈ p
theorem dis_eq {po : List Lot} (d : po.Pairwise fun p q => ∀ i ∈ p, i ∉ q) {p q : Lot} (hp : p ∈ po) (hq : q ∈ po) {i : Nat} (h1 : i ∈ p) (h2 : i ∈ q) : p = q := by
  obtain ⟨a, ha, rfl⟩ := List.mem_iff_getElem.mp hp
  obtain ⟨b, hb, rfl⟩ := List.mem_iff_getElem.mp hq
  have h := List.pairwise_iff_getElem.mp d
  rcases Nat.lt_trichotomy a b with hab | hab | hab
  · exact absurd h2 (h a b ha hb hab i h1)
  · subst hab; rfl
  · exact absurd h1 (h b a hb ha hab i h2)
theorem dis_ix {po : List Lot} (d : po.Pairwise fun p q => ∀ i ∈ p, i ∉ q) {a b : Nat} {p q : Lot} (hp : po[a]? = some p) (hq : po[b]? = some q) {i : Nat} (h1 : i ∈ p) (h2 : i ∈ q) : a = b := by
  obtain ⟨ha, rfl⟩ := List.getElem?_eq_some_iff.mp hp
  obtain ⟨hb, rfl⟩ := List.getElem?_eq_some_iff.mp hq
  have h := List.pairwise_iff_getElem.mp d
  rcases Nat.lt_trichotomy a b with hab | hab | hab
  · exact absurd h2 (h a b ha hb hab i h1)
  · exact hab
  · exact absurd h1 (h b a hb ha hab i h2)
theorem two_le {c : Lot} {i j : Nat} (hi : i ∈ c) (hj : j ∈ c) (ne : i ≠ j) : 1 < c.length := by
  have := nodup_len (a := [i, j]) (b := c) (by simp [ne]) (by intro x hx; simp at hx; rcases hx with rfl | rfl <;> assumption)
  exact this
variable {n : Nat} {a b : List Lot} {x y h : Lot} {own other : List Lot}
theorem same_iff (P : PartsAt a x own) (hs : StrictL h) (hx : ∀ i ∈ h, i ∈ x) (ne : own ≠ []) (np : ∀ p ∈ own, ¬ ∀ i ∈ h, i ∈ p) {i j : Nat} (hi : i ∈ h) (hj : j ∈ h) (hij : i ≠ j) :
    Same own i j ↔ ∃ c ∈ cutL a h, c ≠ h ∧ i ∈ c ∧ j ∈ c := by
  refine ⟨fun ⟨p, hp, h1, h2⟩ => ?_, fun ⟨c, hc, hne, h1, h2⟩ => ?_⟩
  · have k1 : i ∈ keptL p h := kept_mem.mpr ⟨h1, hi⟩
    have k2 : j ∈ keptL p h := kept_mem.mpr ⟨h2, hj⟩
    refine ⟨keptL p h, cutL_mem.mpr ⟨two_le k1 k2 hij, p, P.pn p hp (two_le h1 h2 hij), rfl⟩, fun e => np p hp fun k hk => ?_, k1, k2⟩
    rw [← e] at hk
    exact (kept_mem.mp hk).1
  · obtain ⟨_, m, hm, rfl⟩ := cutL_mem.mp hc
    have m1 := (kept_mem.mp h1).1
    have m2 := (kept_mem.mp h2).1
    rcases P.lam ne m hm with ⟨p, hp, h⟩ | h | h
    · exact ⟨p, hp, h i m1, h j m2⟩
    · refine absurd (strict_ext ((P.st m hm).filter _) hs fun k => ?_) hne
      show k ∈ keptL m _ ↔ _
      rw [kept_mem]
      exact ⟨fun z => z.2, fun z => ⟨h k (hx k z), z⟩⟩
    · exact absurd (hx i hi) (h i m1)
theorem kept_strict {ns : List Lot} {m : Lot} (P : PartsAt ns x own) (hm : m ∈ ns) : StrictL (keptL m h) := (P.st m hm).filter _
/-- one way of: agreeing in the parts is agreeing -/
theorem good_half (P : PartsAt a x own) (Q : PartsAt b y other) (hs : StrictL h) (hx : ∀ i ∈ h, i ∈ x) (hy : ∀ i ∈ h, i ∈ y) (n1 : own ≠ []) (n2 : other ≠ [])
    (sm : ∀ i ∈ h, ∀ j ∈ h, Same own i j ↔ Same other i j) (ag : ∀ p ∈ own, Agr a b (h.filter fun i => decide (i ∈ p))) {c : Lot} (hc : c ∈ cutL a h) : c ∈ cutL b h := by
  obtain ⟨hl, m, hm, rfl⟩ := cutL_mem.mp hc
  have cs : StrictL (keptL m h) := kept_strict P hm
  have ex : ∃ i, i ∈ keptL m h := List.exists_mem_of_length_pos (by omega)
  obtain ⟨i0, hi0⟩ := ex
  obtain ⟨m0, h0⟩ := kept_mem.mp hi0
  rcases P.lam n1 m hm with ⟨p, hp, hmp⟩ | hmx | hmx
  · -- inside a part
    have hsub : ∀ k, k ∈ h.filter (fun i => decide (i ∈ p)) ↔ k ∈ h ∧ k ∈ p := fun k => by rw [List.mem_filter, decide_eq_true_eq]
    have ec : keptL m h = keptL m (h.filter fun i => decide (i ∈ p)) := by
      unfold keptL
      refine List.filter_congr fun k hk => decide_eq_decide.mpr ?_
      rw [hsub]
      exact ⟨fun z => ⟨z, hmp k hk⟩, fun z => z.1⟩
    have hc2 : keptL m h ∈ cutL b (h.filter fun i => decide (i ∈ p)) := by
      have : cutL a (h.filter fun i => decide (i ∈ p)) = cutL b (h.filter fun i => decide (i ∈ p)) := ag p hp
      rw [← this]
      exact cutL_mem.mpr ⟨hl, m, hm, ec⟩
    obtain ⟨_, m', hm', e'⟩ := cutL_mem.mp hc2
    have inm' : ∀ k ∈ keptL m h, k ∈ m' := fun k hk => by rw [e'] at hk; exact (kept_mem.mp hk).1
    -- the part of other that has i0
    obtain ⟨o, ho, hio⟩ := Q.cov n2 i0 (hy i0 h0)
    have ohp : ∀ k ∈ h, k ∈ o → k ∈ p := fun k hk hko => by
      obtain ⟨p', hp', k1, k2⟩ := (sm i0 h0 k hk).mpr ⟨o, ho, hio, hko⟩
      rw [dis_eq P.dis hp' hp k1 (hmp i0 m0)] at k2
      exact k2
    have pho : ∀ k ∈ h, k ∈ p → k ∈ o := fun k hk hkp => by
      obtain ⟨o', ho', k1, k2⟩ := (sm i0 h0 k hk).mp ⟨p, hp, hmp i0 m0, hkp⟩
      rw [dis_eq Q.dis ho' ho k1 hio] at k2
      exact k2
    rcases Q.lam n2 m' hm' with ⟨o', ho', hmo⟩ | hmy | hmy
    · refine cutL_mem.mpr ⟨hl, m', hm', strict_ext cs (kept_strict Q hm') fun k => ?_⟩
      have eo : o' = o := dis_eq Q.dis ho' ho (hmo i0 (inm' i0 hi0)) hio
      refine ⟨fun hk => kept_mem.mpr ⟨inm' k hk, (kept_mem.mp hk).2⟩, fun hk => ?_⟩
      obtain ⟨k1, k2⟩ := kept_mem.mp hk
      rw [e', kept_mem, hsub]
      exact ⟨k1, k2, ohp k k2 (eo ▸ hmo k k1)⟩
    · have full : ∀ k, k ∈ keptL m h ↔ k ∈ h ∧ k ∈ p := fun k => by
        refine ⟨fun hk => ⟨(kept_mem.mp hk).2, hmp k (kept_mem.mp hk).1⟩, fun ⟨k1, k2⟩ => ?_⟩
        rw [e', kept_mem, hsub]
        exact ⟨hmy k (hy k k1), k1, k2⟩
      have col : 1 < o.length := by
        have : (keptL m h).length ≤ o.length := nodup_len (strict_nodup cs) fun k hk => pho k ((full k).mp hk).1 ((full k).mp hk).2
        omega
      have hob := Q.pn o ho col
      refine cutL_mem.mpr ⟨hl, o, hob, strict_ext cs (kept_strict Q hob) fun k => ?_⟩
      rw [full, kept_mem]
      exact ⟨fun ⟨k1, k2⟩ => ⟨pho k k1 k2, k1⟩, fun ⟨k1, k2⟩ => ⟨k2, ohp k k2 k1⟩⟩
    · exact absurd (hy i0 h0) (hmy i0 (inm' i0 hi0))
  · have hyb := Q.nest n2
    have ek : ∀ k, k ∈ keptL m h ↔ k ∈ h := fun k => by
      rw [kept_mem]; exact ⟨fun z => z.2, fun z => ⟨hmx k (hx k z), z⟩⟩
    refine cutL_mem.mpr ⟨hl, y, hyb, strict_ext cs (kept_strict Q hyb) fun k => ?_⟩
    rw [ek, kept_mem]
    exact ⟨fun z => ⟨hy k z, z⟩, fun z => z.2⟩
  · exact absurd (hx i0 h0) (hmx i0 m0)
theorem good_agr (P : PartsAt a x own) (Q : PartsAt b y other) (hs : StrictL h) (hx : ∀ i ∈ h, i ∈ x) (hy : ∀ i ∈ h, i ∈ y) (n1 : own ≠ []) (n2 : other ≠ [])
    (sm : ∀ i ∈ h, ∀ j ∈ h, Same own i j ↔ Same other i j) (ag : ∀ p ∈ own, Agr a b (h.filter fun i => decide (i ∈ p))) : Agr a b h := cutL_ext fun c => by
  refine ⟨good_half P Q hs hx hy n1 n2 sm ag, good_half Q P hs hy hx n2 n1 (fun i hi j hj => (sm i hi j hj).symm) fun o ho => ?_⟩
  by_cases hex : ∃ i ∈ h, i ∈ o
  · obtain ⟨i, hi, hio⟩ := hex
    obtain ⟨p, hp, hip⟩ := P.cov n1 i (hx i hi)
    have e : (h.filter fun i => decide (i ∈ o)) = h.filter fun i => decide (i ∈ p) := List.filter_congr fun k hk => decide_eq_decide.mpr ⟨fun hko => by
      obtain ⟨p', hp', k1, k2⟩ := (sm i hi k hk).mpr ⟨o, ho, hio, hko⟩
      rw [dis_eq P.dis hp' hp k1 hip] at k2
      exact k2, fun hkp => by
      obtain ⟨o', ho', k1, k2⟩ := (sm i hi k hk).mp ⟨p, hp, hip, hkp⟩
      rw [dis_eq Q.dis ho' ho k1 hio] at k2
      exact k2⟩
    rw [e]
    exact (ag p hp).symm
  · have e : (h.filter fun i => decide (i ∈ o)) = [] := List.filter_eq_nil_iff.mpr fun i hi => by simpa using fun z => hex ⟨i, hi, z⟩
    rw [e]
    show cutL b [] = cutL a []
    rw [cutL_nil, cutL_nil]
/-- the same parts in both -/
theorem agr_same (P : PartsAt a x own) (Q : PartsAt b y other) (hs : StrictL h) (hx : ∀ i ∈ h, i ∈ x) (hy : ∀ i ∈ h, i ∈ y) (n1 : own ≠ []) (n2 : other ≠ []) (ag : Agr a b h)
    (np1 : ∀ p ∈ own, ¬ ∀ i ∈ h, i ∈ p) (np2 : ∀ p ∈ other, ¬ ∀ i ∈ h, i ∈ p) : ∀ i ∈ h, ∀ j ∈ h, Same own i j ↔ Same other i j := fun i hi j hj => by
  by_cases e : i = j
  · subst e
    obtain ⟨p, hp, h1⟩ := P.cov n1 i (hx i hi)
    obtain ⟨o, ho, h2⟩ := Q.cov n2 i (hy i hi)
    exact ⟨fun _ => ⟨o, ho, h2, h2⟩, fun _ => ⟨p, hp, h1, h1⟩⟩
  · rw [same_iff P hs hx n1 np1 hi hj e, same_iff Q hs hy n2 np2 hi hj e]
    have ag : cutL a h = cutL b h := ag
    rw [ag]
end Fk
/-! matchings of the parts -/
namespace Fk
open PySem PySem.Spec
variable {n : Nat} {a b : List Lot} {x y : Lot} {own other : List Lot}
theorem bit_or {u j k : Nat} : (u ||| (1 <<< j)).testBit k = (u.testBit k || decide (j = k)) := by
  rw [Nat.testBit_or, Nat.one_shiftLeft, Nat.testBit_two_pow]
/-- what a partial matching gives -/
structure Mat (n : Nat) (a b : List Lot) (y : Lot) (own other done : List Lot) (u s : Nat) (h : Lot) : Prop where
  i : InN n h
  hy : ∀ k ∈ h, k ∈ y
  cov : ∀ k ∈ h, ∃ p ∈ done, k ∈ p
  col : ∀ k ∈ h, ∀ j o, other[j]? = some o → k ∈ o → u.testBit j = true
  sm : ∀ k ∈ h, ∀ l ∈ h, Same own k l ↔ Same other k l
  ag : ∀ p ∈ own, Agr a b (h.filter fun k => decide (k ∈ p))
  len : h.length = s
theorem agr_nil (a b : List Lot) : Agr a b [] := by show cutL a [] = cutL b []; rw [cutL_nil, cutL_nil]
theorem ach_good (P : PartsAt a x own) (Q : PartsAt b y other) (n2 : other ≠ []) : ∀ (todo done : List Lot), own = done ++ todo → ∀ R : Nat → Nat → Prop, (∀ u s, R u s → ∃ h, Mat n a b y own other done u s h) →
    ∀ u s, (rowsOf (gL n a b) todo other).foldl stepR R u s → ∃ h, Mat n a b y own other own u s h
  | [], done, e, R, hR, u, s, h => by
    rw [List.append_nil] at e
    obtain ⟨k, m⟩ := hR u s h
    exact ⟨k, by rw [← e] at m; exact m⟩
  | p :: todo, done, e, R, hR, u, s, h => by
    have hp : p ∈ own := by rw [e]; simp
    refine ach_good P Q n2 todo (done ++ [p]) (by rw [e]; simp) (stepR R (other.map fun o => gL n a b p o)) ?_ u s h
    rintro u s (hRu | ⟨u0, s0, j, v, hRu, hv, hbit, rfl, rfl⟩)
    · obtain ⟨h, m⟩ := hR u s hRu
      exact ⟨h, m.i, m.hy, fun k hk => by obtain ⟨q, hq, z⟩ := m.cov k hk; exact ⟨q, by simp [hq], z⟩, m.col, m.sm, m.ag, m.len⟩
    · obtain ⟨h, m⟩ := hR u0 s0 hRu
      rw [List.getElem?_map] at hv
      cases ho : other[j]? with
      | none => rw [ho] at hv; cases hv
      | some o =>
        rw [ho] at hv
        obtain rfl : gL n a b p o = v := by simpa using hv
        have hom : o ∈ other := List.mem_of_getElem? ho
        obtain ⟨k, ik, kp, ko, kag, klen⟩ := gL_ex n a b p o
        have hnp : ∀ i ∈ h, i ∉ p := fun i hi hip => by
          obtain ⟨q, hq, hiq⟩ := m.cov i hi
          have d := P.dis
          rw [e] at d
          exact (List.pairwise_append.mp d).2.2 q hq p (by simp) i hiq hip
        have hno : ∀ i ∈ h, i ∉ o := fun i hi hio => by
          have := m.col i hi j o ho hio
          rw [hbit] at this; cases this
        have nd : (h ++ k).Nodup := List.nodup_append.mpr ⟨m.i.nd, ik.nd, fun i hi l hl el => hnp i hi (el ▸ kp l hl)⟩
        have mem : ∀ i, i ∈ sortN (h ++ k) ↔ i ∈ h ∨ i ∈ k := fun i => by rw [sortN_mem, List.mem_append]
        have fil : ∀ q ∈ own, Agr a b ((sortN (h ++ k)).filter fun i => decide (i ∈ q)) := fun q hq => by
          by_cases hqp : q = p
          · subst hqp
            refine kag.sub fun i hi => ?_
            obtain ⟨h1, h2⟩ := List.mem_filter.mp hi
            have h2 := of_decide_eq_true h2
            exact ((mem i).mp h1).elim (fun z => absurd h2 (hnp i z)) id
          · refine (m.ag q hq).sub fun i hi => ?_
            obtain ⟨h1, h2⟩ := List.mem_filter.mp hi
            refine List.mem_filter.mpr ⟨((mem i).mp h1).elim id fun z => ?_, h2⟩
            exact absurd (dis_eq P.dis hq hp (of_decide_eq_true h2) (kp i z)) hqp
        have mix : ∀ i ∈ h, ∀ l ∈ k, ¬ Same own i l ∧ ¬ Same other i l := fun i hi l hl => by
          refine ⟨fun ⟨q, hq, h1, h2⟩ => ?_, fun ⟨q, hq, h1, h2⟩ => ?_⟩
          · rw [dis_eq P.dis hq hp h2 (kp l hl)] at h1
            exact hnp i hi h1
          · rw [dis_eq Q.dis hq hom h2 (ko l hl)] at h1
            exact hno i hi h1
        have comm : ∀ {po : List Lot} {i l : Nat}, Same po i l ↔ Same po l i := fun {po i l} => ⟨fun ⟨q, hq, h1, h2⟩ => ⟨q, hq, h2, h1⟩, fun ⟨q, hq, h1, h2⟩ => ⟨q, hq, h2, h1⟩⟩
        refine ⟨sortN (h ++ k), ⟨sortN_lt nd, fun i hi => ((mem i).mp hi).elim (m.i.lt i) (ik.lt i)⟩, fun i hi => ((mem i).mp hi).elim (m.hy i) fun z => Q.sub o hom i (ko i z), fun i hi => ?_, fun i hi j' o' ho' hio' => ?_, fun i hi l hl => ?_, fil, ?_⟩
        · rcases (mem i).mp hi with z | z
          · obtain ⟨q, hq, w⟩ := m.cov i z
            exact ⟨q, by simp [hq], w⟩
          · exact ⟨p, by simp, kp i z⟩
        · rw [bit_or]
          rcases (mem i).mp hi with z | z
          · rw [m.col i z j' o' ho' hio', Bool.true_or]
          · have := dis_ix Q.dis ho ho' (ko i z) hio'
            simp [this]
        · rcases (mem i).mp hi with z | z <;> rcases (mem l).mp hl with w | w
          · exact m.sm i z l w
          · exact ⟨fun q => absurd q (mix i z l w).1, fun q => absurd q (mix i z l w).2⟩
          · exact ⟨fun q => absurd (comm.mp q) (mix l w i z).1, fun q => absurd (comm.mp q) (mix l w i z).2⟩
          · exact ⟨fun _ => ⟨o, hom, ko i z, ko l w⟩, fun _ => ⟨p, hp, kp i z, kp l w⟩⟩
        · rw [(sortN_perm _).length_eq, List.length_append, m.len, klen]
theorem ach_le (P : PartsAt a x own) (Q : PartsAt b y other) (n1 : own ≠ []) (n2 : other ≠ []) {u s : Nat} (h : Ach (rowsOf (gL n a b) own other) u s) : s ≤ gL n a b x y := by
  obtain ⟨k, m⟩ := ach_good (n := n) P Q n2 own [] rfl (fun u s => u = 0 ∧ s = 0) (by
    rintro u s ⟨rfl, rfl⟩
    refine ⟨[], inN_nil n, by simp, by simp, by simp, by simp, fun p hp => ?_, rfl⟩
    exact agr_nil a b) u s h
  have hx : ∀ i ∈ k, i ∈ x := fun i hi => by obtain ⟨p, hp, z⟩ := m.cov i hi; exact P.sub p hp i z
  rw [← m.len]
  exact gL_ge m.i hx m.hy (good_agr P Q m.i.s hx m.hy n1 n2 m.sm m.ag)
theorem ach_from (P : PartsAt a x own) (Q : PartsAt b y other) (n1 : own ≠ []) (n2 : other ≠ []) {h : Lot} (ih : InN n h) (hx : ∀ i ∈ h, i ∈ x) (hy : ∀ i ∈ h, i ∈ y) (ag : Agr a b h) (sm : ∀ i ∈ h, ∀ j ∈ h, Same own i j ↔ Same other i j) :
    ∀ (todo done : List Lot), own = done ++ todo → ∀ R : Nat → Nat → Prop, (∃ u s, R u s ∧ (h.filter fun i => done.any fun p => decide (i ∈ p)).length ≤ s ∧ ∀ j, u.testBit j = true → ∃ i ∈ h, (∃ p ∈ done, i ∈ p) ∧ ∃ o, other[j]? = some o ∧ i ∈ o) →
    ∃ u s, (rowsOf (gL n a b) todo other).foldl stepR R u s ∧ h.length ≤ s
  | [], done, e, R, ⟨u, s, h1, h2, _⟩ => by
    refine ⟨u, s, h1, ?_⟩
    rw [List.append_nil] at e
    have ef : (h.filter fun i => done.any fun p => decide (i ∈ p)) = h := List.filter_eq_self.mpr fun i hi => by
      obtain ⟨p, hp, z⟩ := P.cov n1 i (hx i hi)
      exact List.any_eq_true.mpr ⟨p, e ▸ hp, decide_eq_true z⟩
    rwa [ef] at h2
  | p :: todo, done, e, R, ⟨u, s, h1, h2, h3⟩ => by
    have hp : p ∈ own := by rw [e]; simp
    have e' : own = (done ++ [p]) ++ todo := by rw [e]; simp
    refine ach_from P Q n1 n2 ih hx hy ag sm todo (done ++ [p]) e' (stepR R (other.map fun o => gL n a b p o)) ?_
    by_cases hex : ∃ i ∈ h, i ∈ p
    · obtain ⟨i, hi, hip⟩ := hex
      obtain ⟨o, ho, hio⟩ := Q.cov n2 i (hy i hi)
      obtain ⟨j, hj⟩ := List.getElem?_of_mem ho
      have hbit : u.testBit j = false := by
        cases hb : u.testBit j with
        | false => rfl
        | true =>
          exfalso
          obtain ⟨i', hi', ⟨p', hp', hip'⟩, o', ho', hio'⟩ := h3 j hb
          rw [hj] at ho'; cases ho'
          obtain ⟨q, hq, k1, k2⟩ := (sm i hi i' hi').mpr ⟨o, ho, hio, hio'⟩
          rw [dis_eq P.dis hq hp k1 hip] at k2
          have d := P.dis
          rw [e] at d
          exact (List.pairwise_append.mp d).2.2 p' hp' p (by simp) i' hip' k2
      refine ⟨u ||| (1 <<< j), s + gL n a b p o, .inr ⟨u, s, j, gL n a b p o, h1, by rw [List.getElem?_map, hj]; rfl, hbit, rfl, rfl⟩, ?_, fun j' hj' => ?_⟩
      · have k1 : (h.filter fun i => decide (i ∈ p)).length ≤ gL n a b p o := by
          refine gL_ge (ih.filter _) (fun k hk => of_decide_eq_true (List.mem_filter.mp hk).2) (fun k hk => ?_) (ag.sub fun k hk => (List.mem_filter.mp hk).1)
          obtain ⟨hk1, hk2⟩ := List.mem_filter.mp hk
          obtain ⟨o', ho', z1, z2⟩ := (sm i hi k hk1).mp ⟨p, hp, hip, of_decide_eq_true hk2⟩
          rw [dis_eq Q.dis ho' ho z1 hio] at z2
          exact z2
        have k2 : ∀ l : Lot, (l.filter fun i => (done ++ [p]).any fun p => decide (i ∈ p)).length ≤ (l.filter fun i => done.any fun p => decide (i ∈ p)).length + (l.filter fun i => decide (i ∈ p)).length := by
          intro l
          induction l with
          | nil => simp
          | cons k l ihl =>
            by_cases c1 : (done.any fun p => decide (k ∈ p)) = true
            · have c2 : ((done ++ [p]).any fun p => decide (k ∈ p)) = true := by rw [List.any_append, c1, Bool.true_or]
              rw [List.filter_cons_of_pos (by exact c2), List.filter_cons_of_pos (by exact c1)]
              have : (l.filter fun i => decide (i ∈ p)).length ≤ ((k :: l).filter fun i => decide (i ∈ p)).length := (List.sublist_cons_self k l |>.filter _).length_le
              simp only [List.length_cons]
              omega
            · by_cases c3 : k ∈ p
              · have c2 : ((done ++ [p]).any fun p => decide (k ∈ p)) = true := by simp [c3]
                rw [List.filter_cons_of_pos (by exact c2), List.filter_cons_of_neg (by exact c1), List.filter_cons_of_pos (by simpa using c3)]
                simp only [List.length_cons]
                omega
              · have c2 : ¬ ((done ++ [p]).any fun p => decide (k ∈ p)) = true := by
                  rw [List.any_append]; simp at c1; simp [c1, c3]; exact c1
                rw [List.filter_cons_of_neg (by exact c2), List.filter_cons_of_neg (by exact c1), List.filter_cons_of_neg (by simpa using c3)]
                exact ihl
        have := k2 h
        omega
      · rw [bit_or, Bool.or_eq_true] at hj'
        rcases hj' with hj' | hj'
        · obtain ⟨i', hi', ⟨p', hp', z⟩, w⟩ := h3 j' hj'
          exact ⟨i', hi', ⟨p', by simp [hp'], z⟩, w⟩
        · have : j = j' := of_decide_eq_true hj'
          subst this
          exact ⟨i, hi, ⟨p, by simp, hip⟩, o, hj, hio⟩
    · refine ⟨u, s, .inl h1, ?_, fun j' hj' => ?_⟩
      · have ef : (h.filter fun i => (done ++ [p]).any fun p => decide (i ∈ p)) = h.filter fun i => done.any fun p => decide (i ∈ p) := List.filter_congr fun i hi => by
          have : i ∉ p := fun z => hex ⟨i, hi, z⟩
          rw [List.any_append]; simp [this]
        rw [ef]; exact h2
      · obtain ⟨i', hi', ⟨p', hp', z⟩, w⟩ := h3 j' hj'
        exact ⟨i', hi', ⟨p', by simp [hp'], z⟩, w⟩
theorem exists_max {p : Nat → Prop} : ∀ (m : Nat), (∃ k, p k) → (∀ k, p k → k ≤ m) → ∃ k, p k ∧ ∀ l, p l → l ≤ k
  | 0, ⟨k, hk⟩, h => ⟨k, hk, fun l hl => by have := h l hl; have := h k hk; omega⟩
  | m + 1, ex, h => by
    by_cases hm : p (m + 1)
    · exact ⟨m + 1, hm, h⟩
    · exact exists_max m ex fun k hk => by
        have := h k hk
        have : k ≠ m + 1 := fun e => hm (e ▸ hk)
        omega
theorem ach_zero : ∀ (rows : List (List Nat)) (R : Nat → Nat → Prop), R 0 0 → rows.foldl stepR R 0 0
  | [], _, h => h
  | _ :: rows, R, h => ach_zero rows _ (.inl h)
theorem inN_sub {l : Lot} (h : InN n l) (i : Nat) (hl : ∀ k ∈ l, k = i) : l.length ≤ 1 := by
  have := nodup_len h.nd (b := [i]) fun k hk => by rw [hl k hk]; simp
  exact this
theorem cut_one {ns : List Lot} (st : ∀ m ∈ ns, StrictL m) (i : Nat) : cutL ns [i] = [] := by
  rw [List.eq_nil_iff_forall_not_mem]
  intro c hc
  obtain ⟨h1, m, hm, rfl⟩ := cutL_mem.mp hc
  have := nodup_len (strict_nodup ((st m hm).filter fun k => decide (k ∈ [i]))) (b := [i]) fun k hk => (kept_mem.mp hk).2
  have h2 : (keptL m [i]).length ≤ 1 := this
  omega
/-- the table's law -/
theorem pn_of (P : PartsAt a x own) (Q : PartsAt b y other) (ix : InN n x) (iy : InN n y) : IsPN (gL n a b) x y own other (gL n a b x y) := by
  obtain ⟨h, ih, hx, hy, ag, e⟩ := gL_ex n a b x y
  by_cases nn : own = [] ∧ other = []
  · left
    refine ⟨nn.1, nn.2, ?_⟩
    obtain ⟨i, rfl⟩ := P.tip nn.1
    obtain ⟨j, rfl⟩ := Q.tip nn.2
    have h1 := inN_sub ih i fun k hk => by simpa using hx k hk
    by_cases eq : i = j
    · subst eq
      rw [if_pos rfl]
      have h2 := gL_ge (a := a) (b := b) (x := [i]) (y := [i]) ix (fun _ h => h) (fun _ h => h) (by show cutL a [i] = cutL b [i]; rw [cut_one P.st, cut_one Q.st])
      have : ([i] : Lot).length = 1 := rfl
      omega
    · rw [if_neg (fun z => eq (by simpa using z))]
      have : h = [] := List.eq_nil_iff_forall_not_mem.mpr fun k hk => eq (by
        have h1 : k = i := by simpa using hx k hk
        have h2 : k = j := by simpa using hy k hk
        rw [← h1, h2])
      rw [this] at e
      exact e.symm
  · right
    refine ⟨nn, ?_⟩
    have le1 : ∀ p ∈ own, gL n a b p y ≤ gL n a b x y := fun p hp => by
      obtain ⟨k, k1, k2, k3, k4, k5⟩ := gL_ex n a b p y
      rw [← k5]
      exact gL_ge k1 (fun i hi => P.sub p hp i (k2 i hi)) k3 k4
    have le2 : ∀ p ∈ other, gL n a b x p ≤ gL n a b x y := fun p hp => by
      obtain ⟨k, k1, k2, k3, k4, k5⟩ := gL_ex n a b x p
      rw [← k5]
      exact gL_ge k1 k2 (fun i hi => Q.sub p hp i (k3 i hi)) k4
    by_cases in1 : ∃ p ∈ own, ∀ i ∈ h, i ∈ p
    · obtain ⟨p, hp, hin⟩ := in1
      have k1 : gL n a b p y = gL n a b x y := Nat.le_antisymm (le1 p hp) (by rw [← e]; exact gL_ge ih hin hy ag)
      by_cases n12 : own ≠ [] ∧ other ≠ []
      · obtain ⟨gs, ⟨u, hu⟩, hmax⟩ := exists_max (p := fun s => ∃ u, Ach (rowsOf (gL n a b) own other) u s) (gL n a b x y) ⟨0, 0, ach_zero _ _ ⟨rfl, rfl⟩⟩ fun s ⟨u, hu⟩ => ach_le P Q n12.1 n12.2 hu
        refine ⟨gs, fun _ _ => ⟨⟨u, hu⟩, fun u s hs => hmax s ⟨u, hs⟩⟩, ?_, fun z hz => ?_⟩
        · refine List.mem_append_left _ (List.mem_append_left _ (List.mem_map.mpr ⟨p, hp, k1⟩))
        · rw [if_pos n12] at hz
          rcases List.mem_append.mp hz with hz | hz
          · rcases List.mem_append.mp hz with hz | hz
            · obtain ⟨q, hq, rfl⟩ := List.mem_map.mp hz; exact le1 q hq
            · obtain ⟨q, hq, rfl⟩ := List.mem_map.mp hz; exact le2 q hq
          · rw [List.mem_singleton.mp hz]; exact ach_le P Q n12.1 n12.2 hu
      · refine ⟨0, fun z1 z2 => absurd ⟨z1, z2⟩ n12, ?_, fun z hz => ?_⟩
        · refine List.mem_append_left _ (List.mem_append_left _ (List.mem_map.mpr ⟨p, hp, k1⟩))
        · rw [if_neg n12, List.append_nil] at hz
          rcases List.mem_append.mp hz with hz | hz
          · obtain ⟨q, hq, rfl⟩ := List.mem_map.mp hz; exact le1 q hq
          · obtain ⟨q, hq, rfl⟩ := List.mem_map.mp hz; exact le2 q hq
    · by_cases in2 : ∃ p ∈ other, ∀ i ∈ h, i ∈ p
      · obtain ⟨p, hp, hin⟩ := in2
        have k1 : gL n a b x p = gL n a b x y := Nat.le_antisymm (le2 p hp) (by rw [← e]; exact gL_ge ih hx hin ag)
        by_cases n12 : own ≠ [] ∧ other ≠ []
        · obtain ⟨gs, ⟨u, hu⟩, hmax⟩ := exists_max (p := fun s => ∃ u, Ach (rowsOf (gL n a b) own other) u s) (gL n a b x y) ⟨0, 0, ach_zero _ _ ⟨rfl, rfl⟩⟩ fun s ⟨u, hu⟩ => ach_le P Q n12.1 n12.2 hu
          refine ⟨gs, fun _ _ => ⟨⟨u, hu⟩, fun u s hs => hmax s ⟨u, hs⟩⟩, ?_, fun z hz => ?_⟩
          · refine List.mem_append_left _ (List.mem_append_right _ (List.mem_map.mpr ⟨p, hp, k1⟩))
          · rw [if_pos n12] at hz
            rcases List.mem_append.mp hz with hz | hz
            · rcases List.mem_append.mp hz with hz | hz
              · obtain ⟨q, hq, rfl⟩ := List.mem_map.mp hz; exact le1 q hq
              · obtain ⟨q, hq, rfl⟩ := List.mem_map.mp hz; exact le2 q hq
            · rw [List.mem_singleton.mp hz]; exact ach_le P Q n12.1 n12.2 hu
        · refine ⟨0, fun z1 z2 => absurd ⟨z1, z2⟩ n12, ?_, fun z hz => ?_⟩
          · refine List.mem_append_left _ (List.mem_append_right _ (List.mem_map.mpr ⟨p, hp, k1⟩))
          · rw [if_neg n12, List.append_nil] at hz
            rcases List.mem_append.mp hz with hz | hz
            · obtain ⟨q, hq, rfl⟩ := List.mem_map.mp hz; exact le1 q hq
            · obtain ⟨q, hq, rfl⟩ := List.mem_map.mp hz; exact le2 q hq
      · have n1 : own ≠ [] := fun z => by
          obtain ⟨i, rfl⟩ := P.tip z
          have n2 : other ≠ [] := fun z2 => nn ⟨z, z2⟩
          by_cases hh : h = []
          · obtain ⟨o, ho⟩ := List.exists_mem_of_ne_nil _ n2
            exact in2 ⟨o, ho, by rw [hh]; simp⟩
          · obtain ⟨k, hk⟩ := List.exists_mem_of_ne_nil _ hh
            obtain ⟨o, ho, hko⟩ := Q.cov n2 k (hy k hk)
            refine in2 ⟨o, ho, fun l hl => ?_⟩
            have h1 : k = i := by simpa using hx k hk
            have h2 : l = i := by simpa using hx l hl
            rw [h2, ← h1]; exact hko
        have n2 : other ≠ [] := fun z => by
          obtain ⟨i, rfl⟩ := Q.tip z
          by_cases hh : h = []
          · obtain ⟨o, ho⟩ := List.exists_mem_of_ne_nil _ n1
            exact in1 ⟨o, ho, by rw [hh]; simp⟩
          · obtain ⟨k, hk⟩ := List.exists_mem_of_ne_nil _ hh
            obtain ⟨o, ho, hko⟩ := P.cov n1 k (hx k hk)
            refine in1 ⟨o, ho, fun l hl => ?_⟩
            have h1 : k = i := by simpa using hy k hk
            have h2 : l = i := by simpa using hy l hl
            rw [h2, ← h1]; exact hko
        have sm := agr_same P Q ih.s hx hy n1 n2 ag (fun p hp z => in1 ⟨p, hp, z⟩) (fun p hp z => in2 ⟨p, hp, z⟩)
        obtain ⟨u1, s1, hu1, hs1⟩ := ach_from P Q n1 n2 ih hx hy ag sm own [] rfl (fun u s => u = 0 ∧ s = 0) ⟨0, 0, ⟨rfl, rfl⟩, by simp, by simp⟩
        obtain ⟨gs, ⟨u, hu⟩, hmax⟩ := exists_max (p := fun s => ∃ u, Ach (rowsOf (gL n a b) own other) u s) (gL n a b x y) ⟨0, 0, ach_zero _ _ ⟨rfl, rfl⟩⟩ fun s ⟨u, hu⟩ => ach_le P Q n1 n2 hu
        have e2 : gs = gL n a b x y := Nat.le_antisymm (ach_le P Q n1 n2 hu) (by have := hmax s1 ⟨u1, hu1⟩; omega)
        refine ⟨gs, fun _ _ => ⟨⟨u, hu⟩, fun u s hs => hmax s ⟨u, hs⟩⟩, ?_, fun z hz => ?_⟩
        · rw [if_pos ⟨n1, n2⟩]
          exact List.mem_append_right _ (by rw [e2]; simp)
        · rw [if_pos ⟨n1, n2⟩] at hz
          rcases List.mem_append.mp hz with hz | hz
          · rcases List.mem_append.mp hz with hz | hz
            · obtain ⟨q, hq, rfl⟩ := List.mem_map.mp hz; exact le1 q hq
            · obtain ⟨q, hq, rfl⟩ := List.mem_map.mp hz; exact le2 q hq
          · rw [List.mem_singleton.mp hz]; exact Nat.le_of_eq e2
end Fk
/-! all small trees -/
namespace Fk
open PySem PySem.Spec
def lamSub : List Lot → List (List Lot)
  | [] => [[]]
  | l :: ls => ((lamSub ls).filter fun t => t.all fun m => !crossL l m).map (l :: ·) ++ lamSub ls
theorem lamSub_mem : ∀ {ls t : List Lot}, t.Sublist ls → (∀ a ∈ t, ∀ b ∈ t, crossL a b = false) → t ∈ lamSub ls
  | [], t, h, _ => by rw [List.sublist_nil.mp h]; simp [lamSub]
  | l :: ls, t, h, hc => by
    unfold lamSub
    cases h with
    | cons _ h => exact List.mem_append_right _ (lamSub_mem h hc)
    | cons_cons _ h =>
      rename_i t
      refine List.mem_append_left _ (List.mem_map.mpr ⟨t, List.mem_filter.mpr ⟨lamSub_mem h fun a ha b hb => hc a (by simp [ha]) b (by simp [hb]), ?_⟩, rfl⟩)
      exact List.all_eq_true.mpr fun m hm => by rw [hc l (by simp) m (by simp [hm])]; rfl
def bigLots (n : Nat) : List Lot := ordL ((lotsGo n).filter fun l => decide (2 ≤ l.length) && decide (l.length < n))
/-- the nests but the last one -/
def allTrees (n : Nat) : List (List Lot) := (lamSub (bigLots n)).map fun t => t ++ [List.range n]
theorem tree_in {n : Nat} {ns : List Lot} (t : Tree n ns) (hn : 2 ≤ n) : ns ∈ allTrees n := by
  obtain ⟨ks, rfl⟩ := t.last fun e => by have := t.whole hn; rw [e] at this; cases this
  refine List.mem_map.mpr ⟨ks, lamSub_mem ?_ fun a ha b hb => t.lam a (by simp [ha]) b (by simp [hb]), rfl⟩
  have hsub : ∀ l ∈ ks, l ∈ bigLots n := fun l hl => by
    have hm := t.mem l (by simp [hl])
    refine ordL_mem.mpr (List.mem_filter.mpr ⟨lotsGo_all hm.1 hm.2.1, ?_⟩)
    rw [Bool.and_eq_true, decide_eq_true_eq, decide_eq_true_eq]
    refine ⟨hm.2.2, ?_⟩
    have h1 := strict_len hm.1 hm.2.1
    have : l.length ≠ n := fun e => by
      have e2 := strict_full hm.1 hm.2.1 e
      have nd := t.nodup
      exact (List.nodup_append.mp nd).2.2 l hl (List.range n) (by simp) e2
    omega
  have e : ks = (bigLots n).filter fun l => decide (l ∈ ks) := by
    refine sorted_ext ((List.pairwise_append.mp t.sorted).1) ((ordL_sorted _).filter _) (List.nodup_append.mp t.nodup).1 (List.Pairwise.filter _ (ordL_nodup _)) fun x => ?_
    · rw [List.mem_filter, decide_eq_true_eq]
      exact ⟨fun h => ⟨hsub x h, h⟩, fun h => h.2⟩
  rw [e]
  exact List.filter_sublist
theorem count5 : (allTrees 5).length = 236 := by decide +kernel
end Fk
set_option synthInstance.maxHeartbeats 400000
set_option synthInstance.maxSize 4096
/-! each small tree's parts, by looking at all of them -/
namespace Fk
open PySem PySem.Spec
instance (nests : List Nat) (b : Nat) : Decidable (PartsOk nests b) := by unfold PartsOk; infer_instance
def disB : List Lot → Bool
  | [] => true
  | p :: ps => (ps.all fun q => p.all fun i => !decide (i ∈ q)) && disB ps
theorem disB_ok : ∀ {po : List Lot}, disB po = true → po.Pairwise fun p q => ∀ i ∈ p, i ∉ q
  | [], _ => .nil
  | p :: ps, h => by
    unfold disB at h
    rw [Bool.and_eq_true] at h
    refine .cons (fun q hq i hi => ?_) (disB_ok h.2)
    have := List.all_eq_true.mp (List.all_eq_true.mp h.1 q hq) i hi
    simpa using this
def ChkP (n : Nat) (ns : List Lot) (x : Lot) (po : List Lot) : Prop :=
  (∀ p ∈ po, (p ∈ ntL n ns ∧ p.length < x.length) ∧ (∀ i ∈ p, i ∈ x) ∧ (1 < p.length → p ∈ ns)) ∧ po.length ≤ 10 ∧ disB po = true ∧
    (po ≠ [] → (∀ i ∈ x, ∃ p ∈ po, i ∈ p) ∧ x ∈ ns ∧ ∀ m ∈ ns, (∃ p ∈ po, ∀ i ∈ m, i ∈ p) ∨ (∀ i ∈ x, i ∈ m) ∨ ∀ i ∈ m, i ∉ x) ∧ (po = [] → x.length = 1)
instance (n : Nat) (ns : List Lot) (x : Lot) (po : List Lot) : Decidable (ChkP n ns x po) := by unfold ChkP; infer_instance
def ChkT (n : Nat) (ns : List Lot) : Prop := ns.length ≤ 60 ∧ (ntL n ns).getLast? = some (List.range n) ∧ ∀ x ∈ ntL n ns, (1 < x.length → x ∈ ns ∧ PartsOk (nestB ns) (bitsOf x)) ∧ ChkP n ns x (poL ns x)
instance (n : Nat) (ns : List Lot) : Decidable (ChkT n ns) := by unfold ChkT; infer_instance
def treesOf (n : Nat) : List (List Lot) := if n < 2 then [[]] else allTrees n
theorem tree_of_in {n : Nat} {ns : List Lot} (t : Tree n ns) : ns ∈ treesOf n := by
  unfold treesOf
  by_cases h : n < 2
  · rw [if_pos h]
    have : ns = [] := List.eq_nil_iff_forall_not_mem.mpr fun m hm => by have := t.two hm; omega
    rw [this]; simp
  · rw [if_neg h]; exact tree_in t (by omega)
theorem chk_1 : ∀ t ∈ treesOf 1, ChkT 1 t := by decide +kernel
theorem chk_2 : ∀ t ∈ treesOf 2, ChkT 2 t := by decide +kernel
theorem chk_3 : ∀ t ∈ treesOf 3, ChkT 3 t := by decide +kernel
theorem chk_4 : ∀ t ∈ treesOf 4, ChkT 4 t := by decide +kernel
theorem chk_5 : ∀ t ∈ treesOf 5, ChkT 5 t := by decide +kernel
theorem of_five {p : Nat → Prop} (h1 : p 1) (h2 : p 2) (h3 : p 3) (h4 : p 4) (h5 : p 5) : ∀ n, 0 < n → n ≤ 5 → p n := fun n h0 h => by
  match n, h0, h with
  | 1, _, _ => exact h1
  | 2, _, _ => exact h2
  | 3, _, _ => exact h3
  | 4, _, _ => exact h4
  | 5, _, _ => exact h5
theorem chk {n : Nat} {ns : List Lot} (t : Tree n ns) (h0 : 0 < n) (h : n ≤ 5) : ChkT n ns := of_five (p := fun n => ∀ t ∈ treesOf n, ChkT n t) chk_1 chk_2 chk_3 chk_4 chk_5 n h0 h ns (tree_of_in t)
theorem one_of {x : Lot} (h : x.length = 1) : ∃ i, x = [i] := by
  match x, h with
  | [i], _ => exact ⟨i, rfl⟩
variable {n : Nat} {ns ms : List Lot}
theorem side_ok (t : Tree n ns) (h0 : 0 < n) (h : n ≤ 5) : SideOk n ns := by
  obtain ⟨c1, c2, c3⟩ := chk t h0 h
  exact ⟨by omega, t.l10 (by omega), c1, fun x hx h1 => (c3 x hx).1 h1, fun x hx p hp => ((c3 x hx).2.1 p hp).1, fun x hx => (c3 x hx).2.2.1⟩
theorem parts_at (t : Tree n ns) (h0 : 0 < n) (h : n ≤ 5) {x : Lot} (hx : x ∈ ntL n ns) : PartsAt ns x (poL ns x) := by
  obtain ⟨c1, c2, c3⟩ := chk t h0 h
  obtain ⟨_, k1, k2, k3, k4, k5⟩ := c3 x hx
  exact ⟨fun p hp => (k1 p hp).2.1, disB_ok k3, fun ne => (k4 ne).1, fun ne => (k4 ne).2.2, fun ne => (k4 ne).2.1, fun p hp => (k1 p hp).2.2, fun e => one_of (k5 e), fun m hm => (t.mem m hm).1⟩
theorem nt_in (t : Tree n ns) {x : Lot} (hx : x ∈ ntL n ns) : InN n x := by
  unfold ntL at hx
  rcases List.mem_append.mp (ordL_mem.mp hx) with h | h
  · exact ⟨(t.mem x h).1, (t.mem x h).2.1⟩
  · unfold tips at h
    obtain ⟨i, hi, rfl⟩ := List.mem_map.mp h
    exact ⟨by simp, fun k hk => by simp at hk; rw [hk]; exact List.mem_range.mp hi⟩
theorem tab_ok (t : Tree n ns) (u : Tree n ms) (h0 : 0 < n) (h : n ≤ 5) : TabOk n ns ms (gL n ns ms) :=
  ⟨side_ok t h0 h, side_ok u h0 h, fun x hx y hy => pn_of (parts_at t h0 h hx) (parts_at u h0 h hy) (nt_in t hx) (nt_in u hy)⟩
theorem dist_ok (t : Tree n ns) (u : Tree n ms) (h0 : 0 < n) (h : n ≤ 5) : R_distance [eTree n ns, eTree n ms] (eI (farN n ns ms)) :=
  ⟨n, ns, ms, gL n ns ms, List.range n, List.range n, rfl, tab_ok t u h0 h, (chk t h0 h).2.1, (chk u h0 h).2.1, best_le n ns ms, rfl⟩
end Fk
set_option synthInstance.maxHeartbeats 400000
set_option synthInstance.maxSize 4096
/-! trees that are traces of other trees -/
namespace Fk
open PySem PySem.Spec
def img (φ : Nat → Nat) (l : Lot) : Lot := sortN (l.map φ)
theorem img_mem {φ : Nat → Nat} {l : Lot} {y : Nat} : y ∈ img φ l ↔ ∃ x ∈ l, φ x = y := by
  unfold img
  rw [sortN_mem, List.mem_map]
theorem img_len {φ : Nat → Nat} {l : Lot} : (img φ l).length = l.length := by
  unfold img; rw [(sortN_perm _).length_eq, List.length_map]
structure InjN (n' n : Nat) (φ : Nat → Nat) : Prop where
  lt : ∀ x, x < n' → φ x < n
  inj : ∀ x y, x < n' → y < n' → φ x = φ y → x = y
structure RelT (n' : Nat) (φ : Nat → Nat) (a' a : List Lot) : Prop where
  dn : ∀ m' ∈ a', ∃ m ∈ a, ∀ x, x < n' → (x ∈ m' ↔ φ x ∈ m)
  up : ∀ m ∈ a, ∀ x y, x < n' → y < n' → x ≠ y → φ x ∈ m → φ y ∈ m → ∃ m' ∈ a', ∀ z, z < n' → (z ∈ m' ↔ φ z ∈ m)
  st' : ∀ m ∈ a', StrictL m
  st : ∀ m ∈ a, StrictL m
variable {n' n : Nat} {φ : Nat → Nat} {a' a b' b : List Lot} {h c : Lot}
theorem img_in (J : InjN n' n φ) (i : InN n' h) : InN n (img φ h) := ⟨sortN_lt (map_nodup i.nd fun x hx y hy e => J.inj x y (i.lt x hx) (i.lt y hy) e), fun y hy => by
  obtain ⟨x, hx, rfl⟩ := img_mem.mp hy
  exact J.lt x (i.lt x hx)⟩
theorem img_sub (J : InjN n' n φ) (i : InN n' h) {x : Nat} (hx : x < n') : φ x ∈ img φ h ↔ x ∈ h := by
  rw [img_mem]
  exact ⟨fun ⟨y, hy, e⟩ => J.inj y x (i.lt y hy) hx e ▸ hy, fun z => ⟨x, z, rfl⟩⟩
theorem cut_img (R : RelT n' φ a' a) (J : InjN n' n φ) (i : InN n' h) (ic : InN n' c) (hc : ∀ x ∈ c, x ∈ h) : c ∈ cutL a' h ↔ img φ c ∈ cutL a (img φ h) := by
  rw [cutL_mem, cutL_mem, img_len]
  refine ⟨fun ⟨h1, m', hm', e⟩ => ⟨h1, ?_⟩, fun ⟨h1, m, hm, e⟩ => ⟨h1, ?_⟩⟩
  · obtain ⟨m, hm, hx⟩ := R.dn m' hm'
    refine ⟨m, hm, strict_ext (img_in J ic).s ((R.st m hm).filter _) fun y => ?_⟩
    show _ ↔ y ∈ keptL m _
    rw [kept_mem, img_mem, img_mem]
    refine ⟨fun ⟨x, hxc, e2⟩ => ?_, fun ⟨h2, x, hxh, e2⟩ => ⟨x, ?_, e2⟩⟩
    · rw [e] at hxc
      obtain ⟨k1, k2⟩ := kept_mem.mp hxc
      exact ⟨e2 ▸ (hx x (i.lt x k2)).mp k1, x, k2, e2⟩
    · rw [e]
      exact kept_mem.mpr ⟨(hx x (i.lt x hxh)).mpr (e2 ▸ h2), hxh⟩
  · have key : ∀ x ∈ h, x ∈ c ↔ φ x ∈ m := fun x hx => by
      rw [← img_sub J ic (i.lt x hx), e, kept_mem, img_sub J i (i.lt x hx)]
      exact ⟨fun z => z.1, fun z => ⟨z, hx⟩⟩
    obtain ⟨x, y, hx, hy, hxy⟩ : ∃ x y, x ∈ c ∧ y ∈ c ∧ x ≠ y := by
      match c, h1, ic with
      | x :: y :: _, _, ic =>
        refine ⟨x, y, by simp, by simp, fun e => ?_⟩
        have := List.nodup_cons.mp ic.nd
        exact this.1 (by rw [e]; simp)
    obtain ⟨m', hm', hz⟩ := R.up m hm x y (ic.lt x hx) (ic.lt y hy) hxy ((key x (hc x hx)).mp hx) ((key y (hc y hy)).mp hy)
    refine ⟨m', hm', strict_ext ic.s ((R.st' m' hm').filter _) fun z => ?_⟩
    show _ ↔ z ∈ keptL m' _
    rw [kept_mem]
    refine ⟨fun hzc => ⟨(hz z (ic.lt z hzc)).mpr ((key z (hc z hzc)).mp hzc), hc z hzc⟩, fun ⟨k1, k2⟩ => (key z k2).mpr ((hz z (i.lt z k2)).mp k1)⟩
theorem img_pre (J : InjN n' n φ) (i : InN n' h) {d : Lot} (sd : StrictL d) (hd : ∀ y ∈ d, y ∈ img φ h) : ∃ c, InN n' c ∧ (∀ x ∈ c, x ∈ h) ∧ img φ c = d := by
  refine ⟨h.filter fun x => decide (φ x ∈ d), i.filter _, fun x hx => (List.mem_filter.mp hx).1, strict_ext (img_in J (i.filter _)).s sd fun y => ?_⟩
  rw [img_mem]
  refine ⟨fun ⟨x, hx, e⟩ => e ▸ of_decide_eq_true (List.mem_filter.mp hx).2, fun hy => ?_⟩
  obtain ⟨x, hx, e⟩ := img_mem.mp (hd y hy)
  exact ⟨x, List.mem_filter.mpr ⟨hx, decide_eq_true (e ▸ hy)⟩, e⟩
theorem cut_sub {ns : List Lot} (hc : c ∈ cutL ns h) : ∀ x ∈ c, x ∈ h := fun x hx => by
  obtain ⟨_, m, _, rfl⟩ := cutL_mem.mp hc
  exact (kept_mem.mp hx).2
theorem cut_st {ns : List Lot} (st : ∀ m ∈ ns, StrictL m) (hc : c ∈ cutL ns h) : StrictL c := by
  obtain ⟨_, m, hm, rfl⟩ := cutL_mem.mp hc
  exact (st m hm).filter _
theorem agr_img (R : RelT n' φ a' a) (T : RelT n' φ b' b) (J : InjN n' n φ) (i : InN n' h) : Agr a' b' h ↔ Agr a b (img φ h) := by
  refine ⟨fun ag => cutL_ext fun d => ?_, fun ag => cutL_ext fun c => ?_⟩
  · have ag : cutL a' h = cutL b' h := ag
    refine ⟨fun hd => ?_, fun hd => ?_⟩
    · obtain ⟨c, ic, hc, rfl⟩ := img_pre J i (cut_st R.st hd) (cut_sub hd)
      have := (cut_img R J i ic hc).mpr hd
      rw [ag] at this
      exact (cut_img T J i ic hc).mp this
    · obtain ⟨c, ic, hc, rfl⟩ := img_pre J i (cut_st T.st hd) (cut_sub hd)
      have := (cut_img T J i ic hc).mpr hd
      rw [← ag] at this
      exact (cut_img R J i ic hc).mp this
  · have ag : cutL a (img φ h) = cutL b (img φ h) := ag
    refine ⟨fun hc => ?_, fun hc => ?_⟩
    · have ic : InN n' c := ⟨cut_st R.st' hc, fun x hx => i.lt x (cut_sub hc x hx)⟩
      have := (cut_img R J i ic (cut_sub hc)).mp hc
      rw [ag] at this
      exact (cut_img T J i ic (cut_sub hc)).mpr this
    · have ic : InN n' c := ⟨cut_st T.st' hc, fun x hx => i.lt x (cut_sub hc x hx)⟩
      have := (cut_img T J i ic (cut_sub hc)).mp hc
      rw [← ag] at this
      exact (cut_img R J i ic (cut_sub hc)).mpr this
theorem best_img (R : RelT n' φ a' a) (T : RelT n' φ b' b) (J : InjN n' n φ) : bestL n' a' b' ≤ bestL n a b := by
  obtain ⟨h, i, ag, e⟩ := best_ex n' a' b'
  have := best_ge (img_in J i) ((agr_img R T J i).mp ag)
  rw [img_len] at this
  omega
/-- all but z is reached -/
theorem best_img1 (R : RelT n' φ a' a) (T : RelT n' φ b' b) (J : InjN n' n φ) (z : Nat) (cov : ∀ y, y < n → y ≠ z → ∃ x, x < n' ∧ φ x = y) : bestL n a b ≤ bestL n' a' b' + 1 := by
  obtain ⟨h, i, ag, e⟩ := best_ex n a b
  have ik : InN n' ((List.range n').filter fun x => decide (φ x ∈ h)) := (inN_range n').filter _
  have sub : ∀ y ∈ img φ ((List.range n').filter fun x => decide (φ x ∈ h)), y ∈ h := fun y hy => by
    obtain ⟨x, hx, rfl⟩ := img_mem.mp hy
    exact of_decide_eq_true (List.mem_filter.mp hx).2
  have ag2 := (agr_img R T J ik).mpr (ag.sub sub)
  have h1 := best_ge ik ag2
  have h2 : h.length ≤ (img φ ((List.range n').filter fun x => decide (φ x ∈ h)) ++ [z]).length := nodup_len i.nd fun y hy => by
    by_cases hz : y = z
    · rw [hz]; simp
    · obtain ⟨x, hx, e⟩ := cov y (i.lt y hy) hz
      exact List.mem_append_left _ (img_mem.mpr ⟨x, List.mem_filter.mpr ⟨List.mem_range.mpr hx, decide_eq_true (e ▸ hy)⟩, e⟩)
  rw [List.length_append, img_len] at h2
  have : ([z] : Lot).length = 1 := rfl
  omega
/-! what can be looked at -/
def ChkR (n' : Nat) (φ : Nat → Nat) (a' a : List Lot) : Prop :=
  (∀ m' ∈ a', ∃ m ∈ a, ∀ x ∈ List.range n', decide (x ∈ m') = decide (φ x ∈ m)) ∧
  ∀ m ∈ a, 2 ≤ ((List.range n').filter fun x => decide (φ x ∈ m)).length → ∃ m' ∈ a', ∀ x ∈ List.range n', decide (x ∈ m') = decide (φ x ∈ m)
instance (n' : Nat) (φ : Nat → Nat) (a' a : List Lot) : Decidable (ChkR n' φ a' a) := by unfold ChkR; infer_instance
theorem chkR_ok (h : ChkR n' φ a' a) (s1 : ∀ m ∈ a', StrictL m) (s2 : ∀ m ∈ a, StrictL m) : RelT n' φ a' a := by
  refine ⟨fun m' hm' => ?_, fun m hm x y hx hy ne k1 k2 => ?_, s1, s2⟩
  · obtain ⟨m, hm, hx⟩ := h.1 m' hm'
    exact ⟨m, hm, fun x h' => decide_eq_decide.mp (hx x (List.mem_range.mpr h'))⟩
  · have h2 : 1 < ((List.range n').filter fun x => decide (φ x ∈ m)).length := two_le (i := x) (j := y) (List.mem_filter.mpr ⟨List.mem_range.mpr hx, decide_eq_true k1⟩) (List.mem_filter.mpr ⟨List.mem_range.mpr hy, decide_eq_true k2⟩) ne
    obtain ⟨m', hm', hx⟩ := h.2 m hm h2
    exact ⟨m', hm', fun z hz => decide_eq_decide.mp (hx z (List.mem_range.mpr hz))⟩
def pwB (r : Lot → Lot → Bool) : List Lot → Bool
  | [] => true
  | x :: xs => xs.all (r x) && pwB r xs
theorem pwB_ok {r : Lot → Lot → Bool} : ∀ {l : List Lot}, pwB r l = true → l.Pairwise fun a b => r a b = true
  | [], _ => .nil
  | x :: xs, h => by
    unfold pwB at h
    rw [Bool.and_eq_true] at h
    exact .cons (fun y hy => List.all_eq_true.mp h.1 y hy) (pwB_ok h.2)
def strB : Lot → Bool
  | [] => true
  | x :: xs => (xs.all fun y => decide (x < y)) && strB xs
theorem strB_ok : ∀ {l : Lot}, strB l = true → StrictL l
  | [], _ => .nil
  | x :: xs, h => by
    unfold strB at h
    rw [Bool.and_eq_true] at h
    exact .cons (fun y hy => of_decide_eq_true (List.all_eq_true.mp h.1 y hy)) (strB_ok h.2)
def ChkTree (n : Nat) (ns : List Lot) : Prop := pwB (fun a b => rankLe a b && !decide (a = b)) ns = true ∧ (∀ l ∈ ns, strB l = true ∧ (∀ x ∈ l, x < n) ∧ 2 ≤ l.length) ∧ (∀ a ∈ ns, ∀ b ∈ ns, crossL a b = false) ∧ (2 ≤ n → List.range n ∈ ns)
instance (n : Nat) (ns : List Lot) : Decidable (ChkTree n ns) := by unfold ChkTree; infer_instance
theorem chkTree_ok {ns : List Lot} (h : ChkTree n ns) : Tree n ns := by
  obtain ⟨h1, h2, h3, h4⟩ := h
  have h1 := pwB_ok h1
  refine ⟨h1.imp fun h => ((Bool.and_eq_true _ _).mp h).1, h1.imp fun h => by have := ((Bool.and_eq_true _ _).mp h).2; simpa using this, fun l hl => ⟨strB_ok (h2 l hl).1, (h2 l hl).2⟩, h3, h4⟩
def upL (leaf x : Nat) : Nat := if x < leaf then x else x + 1
/-- a leaf less -/
def ChkLess (n : Nat) (ns : List Lot) : Prop := ∀ leaf ∈ List.range n, (lessOne n leaf).length = n - 1 ∧ ChkTree (n - 1) (withoutL n ns leaf) ∧ ChkR (n - 1) (upL leaf) (withoutL n ns leaf) ns
instance (n : Nat) (ns : List Lot) : Decidable (ChkLess n ns) := by unfold ChkLess; infer_instance
theorem less_2 : ∀ t ∈ treesOf 2, ChkLess 2 t := by decide +kernel
theorem less_3 : ∀ t ∈ treesOf 3, ChkLess 3 t := by decide +kernel
theorem less_4 : ∀ t ∈ treesOf 4, ChkLess 4 t := by decide +kernel
theorem less_5 : ∀ t ∈ treesOf 5, ChkLess 5 t := by decide +kernel
end Fk
set_option synthInstance.maxHeartbeats 400000
set_option synthInstance.maxSize 4096
/-! a leaf more; the widest fork; a cut and a graft -/
namespace Fk
open PySem PySem.Spec
/-- a leaf more -/
def ChkMore (n : Nat) (ns : List Lot) : Prop := (∀ lot ∈ lotsGo n, lot ≠ [] → ChkTree (n + 1) (putInL n ns lot) ∧ ChkR n (fun x => x) ns (putInL n ns lot)) ∧
  (∀ m ∈ putInL n ns (List.range n), n ∈ m → m = List.range (n + 1)) ∧ (2 ≤ n → List.range n ∈ putInL n ns (List.range n))
instance (n : Nat) (ns : List Lot) : Decidable (ChkMore n ns) := by unfold ChkMore; infer_instance
theorem more_1 : ∀ t ∈ treesOf 1, ChkMore 1 t := by decide +kernel
theorem more_2 : ∀ t ∈ treesOf 2, ChkMore 2 t := by decide +kernel
theorem more_3 : ∀ t ∈ treesOf 3, ChkMore 3 t := by decide +kernel
theorem more_4 : ∀ t ∈ treesOf 4, ChkMore 4 t := by decide +kernel
/-- the widest fork -/
def wideL (ns : List Lot) : Nat := maxN (1 :: ns.map fun m => (partsL ns m).length)
def ChkWide (n : Nat) (ns : List Lot) : Prop := (∀ h ∈ lotsGo n, cutL ns h = cutL (bushL ns) h → h.length ≤ wideL ns) ∧ ∃ h ∈ lotsGo n, cutL ns h = cutL (bushL ns) h ∧ h.length = wideL ns
instance (n : Nat) (ns : List Lot) : Decidable (ChkWide n ns) := by unfold ChkWide; infer_instance
theorem wide_1 : ∀ t ∈ treesOf 1, ChkWide 1 t := by decide +kernel
theorem wide_2 : ∀ t ∈ treesOf 2, ChkWide 2 t := by decide +kernel
theorem wide_3 : ∀ t ∈ treesOf 3, ChkWide 3 t := by decide +kernel
theorem wide_4 : ∀ t ∈ treesOf 4, ChkWide 4 t := by decide +kernel
theorem wide_5 : ∀ t ∈ treesOf 5, ChkWide 5 t := by decide +kernel
/-- a forked tree, a leaf moved -/
def ChkCut (n : Nat) (ns : List Lot) : Prop := ns.length + 1 = n → (∀ m ∈ ns, (partsL ns m).length = 2) ∧ ∀ a ∈ List.range n, ∀ b ∈ List.range n, a ≠ b → ChkTree n (cutPutL ns a b) ∧ ChkR (n - 1) (upL a) (withoutL n ns a) (cutPutL ns a b)
instance (n : Nat) (ns : List Lot) : Decidable (ChkCut n ns) := by unfold ChkCut; infer_instance
theorem cut_3 : ∀ t ∈ treesOf 3, ChkCut 3 t := by decide +kernel
theorem cut_4 : ∀ t ∈ treesOf 4, ChkCut 4 t := by decide +kernel
theorem cut_5 : ∀ t ∈ treesOf 5, ChkCut 5 t := by decide +kernel
end Fk
/-! the distance's laws -/
namespace Fk
open PySem PySem.Spec
variable {n : Nat} {a b : List Lot}
theorem tst {ns : List Lot} (t : Tree n ns) : ∀ m ∈ ns, StrictL m := fun m hm => (t.mem m hm).1
theorem up_inj (leaf : Nat) : InjN (n - 1) n (upL leaf) := ⟨fun x hx => by unfold upL; split <;> omega, fun x y hx hy e => by unfold upL at e; split at e <;> split at e <;> omega⟩
theorem id_inj : InjN n (n + 1) (fun x => x) := ⟨fun x hx => by omega, fun x y _ _ e => e⟩
/-! a leaf less -/
theorem chk_less (t : Tree n a) (h2 : 2 ≤ n) (h5 : n ≤ 5) : ChkLess n a := by
  have h := tree_of_in t
  match n, h2, h5, h with
  | 2, _, _, h => exact less_2 a h
  | 3, _, _, h => exact less_3 a h
  | 4, _, _, h => exact less_4 a h
  | 5, _, _, h => exact less_5 a h
variable {leaf : Nat}
theorem less_tree (t : Tree n a) (h2 : 2 ≤ n) (h5 : n ≤ 5) (hl : leaf < n) : Tree (n - 1) (withoutL n a leaf) := chkTree_ok (chk_less t h2 h5 leaf (List.mem_range.mpr hl)).2.1
theorem less_len (t : Tree n a) (h2 : 2 ≤ n) (h5 : n ≤ 5) (hl : leaf < n) : (lessOne n leaf).length = n - 1 := (chk_less t h2 h5 leaf (List.mem_range.mpr hl)).1
theorem less_rel (t : Tree n a) (h2 : 2 ≤ n) (h5 : n ≤ 5) (hl : leaf < n) : RelT (n - 1) (upL leaf) (withoutL n a leaf) a := chkR_ok (chk_less t h2 h5 leaf (List.mem_range.mpr hl)).2.2 (tst (less_tree t h2 h5 hl)) (tst t)
theorem up_cov (hl : leaf < n) : ∀ y, y < n → y ≠ leaf → ∃ x, x < n - 1 ∧ upL leaf x = y := fun y hy ne => by
  by_cases h : y < leaf
  · exact ⟨y, by omega, by unfold upL; rw [if_pos h]⟩
  · exact ⟨y - 1, by omega, by unfold upL; rw [if_neg (by omega)]; omega⟩
theorem far_less (t : Tree n a) (u : Tree n b) (h2 : 2 ≤ n) (h5 : n ≤ 5) (hl : leaf < n) : farN (n - 1) (withoutL n a leaf) (withoutL n b leaf) = farN n a b ∨ farN (n - 1) (withoutL n a leaf) (withoutL n b leaf) + 1 = farN n a b := by
  have h1 := best_img (less_rel t h2 h5 hl) (less_rel u h2 h5 hl) (up_inj leaf)
  have h2' := best_img1 (less_rel t h2 h5 hl) (less_rel u h2 h5 hl) (up_inj leaf) leaf (up_cov hl)
  have h3 := best_le n a b
  have h4 := best_le (n - 1) (withoutL n a leaf) (withoutL n b leaf)
  unfold farN
  omega
/-! a leaf more -/
theorem chk_more (t : Tree n a) (h0 : 0 < n) (h4 : n ≤ 4) : ChkMore n a := by
  have h := tree_of_in t
  match n, h0, h4, h with
  | 1, _, _, h => exact more_1 a h
  | 2, _, _, h => exact more_2 a h
  | 3, _, _, h => exact more_3 a h
  | 4, _, _, h => exact more_4 a h
variable {l k : Lot}
theorem more_tree (t : Tree n a) (h0 : 0 < n) (h4 : n ≤ 4) (i : InN n l) (ne : l ≠ []) : Tree (n + 1) (putInL n a l) := chkTree_ok ((chk_more t h0 h4).1 l (InN.go.mpr i) ne).1
theorem more_rel (t : Tree n a) (h0 : 0 < n) (h4 : n ≤ 4) (i : InN n l) (ne : l ≠ []) : RelT n (fun x => x) a (putInL n a l) := chkR_ok ((chk_more t h0 h4).1 l (InN.go.mpr i) ne).2 (tst t) (tst (more_tree t h0 h4 i ne))
theorem id_cov : ∀ y, y < n + 1 → y ≠ n → ∃ x, x < n ∧ (fun x : Nat => x) x = y := fun y hy ne => ⟨y, by omega, rfl⟩
theorem far_more (t : Tree n a) (u : Tree n b) (h0 : 0 < n) (h4 : n ≤ 4) (i : InN n l) (ne : l ≠ []) (j : InN n k) (nk : k ≠ []) : farN (n + 1) (putInL n a l) (putInL n b k) = farN n a b ∨ farN (n + 1) (putInL n a l) (putInL n b k) = farN n a b + 1 := by
  have h1 := best_img (more_rel t h0 h4 i ne) (more_rel u h0 h4 j nk) id_inj
  have h2 := best_img1 (more_rel t h0 h4 i ne) (more_rel u h0 h4 j nk) id_inj n id_cov
  have h3 := best_le n a b
  have h4 := best_le (n + 1) (putInL n a l) (putInL n b k)
  unfold farN
  omega
theorem far_more_self (t : Tree n a) (h0 : 0 < n) (h4 : n ≤ 4) (i : InN n l) (ne : l ≠ []) (j : InN n k) (nk : k ≠ []) : farN (n + 1) (putInL n a l) (putInL n a k) = if putInL n a l = putInL n a k then 0 else 1 := by
  have h1 := far_more t t h0 h4 i ne j nk
  have h2 : farN n a a = 0 := (far_zero t t).mpr rfl
  have h3 := far_zero (more_tree t h0 h4 i ne) (more_tree t h0 h4 j nk)
  by_cases e : putInL n a l = putInL n a k
  · rw [if_pos e]; exact h3.mpr e
  · rw [if_neg e]
    have : farN (n + 1) (putInL n a l) (putInL n a k) ≠ 0 := fun z => e (h3.mp z)
    omega
theorem id_img {h : Lot} (s : StrictL h) : img (fun x => x) h = h := strict_ext (sortN_lt (by simpa using strict_nodup s)) s fun x => by
  show x ∈ img (fun x => x) h ↔ _
  rw [img_mem]; simp
theorem far_all (t : Tree n a) (u : Tree n b) (h0 : 0 < n) (h4 : n ≤ 4) : farN (n + 1) (putInL n a (List.range n)) (putInL n b (List.range n)) = farN n a b := by
  have ne : List.range n ≠ [] := by intro e; have := congrArg List.length e; simp at this; omega
  have iR := inN_range n
  have R := more_rel t h0 h4 iR ne
  have U := more_rel u h0 h4 iR ne
  have tt := more_tree t h0 h4 iR ne
  have tu := more_tree u h0 h4 iR ne
  have h2 := best_img1 R U id_inj n id_cov
  have h1 : bestL n a b + 1 ≤ bestL (n + 1) (putInL n a (List.range n)) (putInL n b (List.range n)) := by
    obtain ⟨h, i, ag, e⟩ := best_ex n a b
    have hn : ∀ x ∈ h, x ≠ n := fun x hx => by have := i.lt x hx; omega
    have ih : InN (n + 1) (h ++ [n]) := ⟨List.pairwise_append.mpr ⟨i.s, by simp, fun x hx y hy => by rw [List.mem_singleton.mp hy]; exact i.lt x hx⟩, fun x hx => by
      rcases List.mem_append.mp hx with hx | hx
      · have := i.lt x hx; omega
      · rw [List.mem_singleton.mp hx]; omega⟩
    have half : ∀ {a b : List Lot}, Tree n a → Tree n b → Agr a b h → ∀ c, c ∈ cutL (putInL n a (List.range n)) (h ++ [n]) → c ∈ cutL (putInL n b (List.range n)) (h ++ [n]) := fun {a b} t u ag c hc => by
      have R := more_rel t h0 h4 iR ne
      have U := more_rel u h0 h4 iR ne
      have tt := more_tree t h0 h4 iR ne
      have tu := more_tree u h0 h4 iR ne
      obtain ⟨k1, k2⟩ := (chk_more t h0 h4).2
      obtain ⟨l1, l2⟩ := (chk_more u h0 h4).2
      have sc := cut_st (tst tt) hc
      obtain ⟨hl, m, hm, ec⟩ := cutL_mem.mp hc
      have kn : ∀ {m : Lot}, n ∉ m → keptL m (h ++ [n]) = keptL m h := fun {m} hnm => List.filter_congr fun x hx => decide_eq_decide.mpr (by
        rw [List.mem_append, List.mem_singleton]
        exact ⟨fun z => z.elim id fun e => absurd (e ▸ hx) hnm, .inl⟩)
      by_cases hnm : n ∈ m
      · exact cutL_mem.mpr ⟨hl, _, tu.whole (by omega), by rw [ec, k1 m hm hnm]⟩
      · rw [kn hnm] at ec
        have ag2 := (agr_img R U id_inj i).mp ag
        rw [id_img i.s] at ag2
        have ag2 : cutL (putInL n a (List.range n)) h = cutL (putInL n b (List.range n)) h := ag2
        have hc2 : c ∈ cutL (putInL n b (List.range n)) h := by rw [← ag2]; exact cutL_mem.mpr ⟨hl, m, hm, ec⟩
        obtain ⟨_, m2, hm2, ec2⟩ := cutL_mem.mp hc2
        by_cases hn2 : n ∈ m2
        · have em2 := l1 m2 hm2 hn2
          have hch : ∀ x, x ∈ c ↔ x ∈ h := fun x => by
            rw [ec2, em2, kept_mem, List.mem_range]
            exact ⟨fun z => z.2, fun z => ⟨by have := i.lt x z; omega, z⟩⟩
          have hnn : 2 ≤ n := by
            have : c.length ≤ n := strict_len sc fun x hx => i.lt x ((hch x).mp hx)
            omega
          have hr := l2 hnn
          refine cutL_mem.mpr ⟨hl, _, hr, strict_ext sc ((range_strict n).filter _) fun x => ?_⟩
          show _ ↔ x ∈ keptL _ _
          rw [kept_mem, hch, List.mem_range, List.mem_append]
          exact ⟨fun z => ⟨i.lt x z, .inl z⟩, fun ⟨z1, z2⟩ => z2.elim id fun e => by rw [List.mem_singleton.mp e] at z1; omega⟩
        · exact cutL_mem.mpr ⟨hl, m2, hm2, by rw [kn hn2]; exact ec2⟩
    have agr : Agr (putInL n a (List.range n)) (putInL n b (List.range n)) (h ++ [n]) := cutL_ext fun c => ⟨half t u ag c, half u t ag.symm c⟩
    have := best_ge ih agr
    rw [List.length_append] at this
    have e1 : ([n] : Lot).length = 1 := rfl
    omega
  have h3 := best_le n a b
  have h5 := best_le (n + 1) (putInL n a (List.range n)) (putInL n b (List.range n))
  unfold farN
  omega
/-! the widest fork -/
theorem far_wide (t : Tree n a) (h0 : 0 < n) (h5 : n ≤ 5) : farN n a (bushL a) = n - wideL a ∧ wideL a ≤ n := by
  have h := of_five (p := fun n => ∀ t ∈ treesOf n, ChkWide n t) wide_1 wide_2 wide_3 wide_4 wide_5 n h0 h5 a (tree_of_in t)
  obtain ⟨k, hk, ag, e⟩ := h.2
  have h1 := best_ge (InN.go.mp hk) (show Agr a (bushL a) k from ag)
  obtain ⟨m, im, am, em⟩ := best_ex n a (bushL a)
  have h2 := h.1 m (InN.go.mpr im) am
  have h3 := (InN.go.mp hk).len
  unfold farN
  exact ⟨by omega, by omega⟩
/-! a cut and a graft -/
theorem chk_cut (t : Tree n a) (h3 : 3 ≤ n) (h5 : n ≤ 5) : ChkCut n a := by
  have h := tree_of_in t
  match n, h3, h5, h with
  | 3, _, _, h => exact cut_3 a h
  | 4, _, _, h => exact cut_4 a h
  | 5, _, _, h => exact cut_5 a h
variable {i j : Nat}
theorem cut_tree (t : Tree n a) (h3 : 3 ≤ n) (h5 : n ≤ 5) (f : a.length + 1 = n) (hi : i < n) (hj : j < n) (ne : i ≠ j) : Tree n (cutPutL a i j) := chkTree_ok ((chk_cut t h3 h5 f).2 i (List.mem_range.mpr hi) j (List.mem_range.mpr hj) ne).1
theorem far_cut (t : Tree n a) (h3 : 3 ≤ n) (h5 : n ≤ 5) (f : a.length + 1 = n) (hi : i < n) (hj : j < n) (ne : i ≠ j) : farN n a (cutPutL a i j) = if cutPutL a i j = a then 0 else 1 := by
  have tc := cut_tree t h3 h5 f hi hj ne
  have R := less_rel t (by omega) h5 hi
  have C : RelT (n - 1) (upL i) (withoutL n a i) (cutPutL a i j) := chkR_ok ((chk_cut t h3 h5 f).2 i (List.mem_range.mpr hi) j (List.mem_range.mpr hj) ne).2 (tst (less_tree t (by omega) h5 hi)) (tst tc)
  have h1 := best_img R C (up_inj i)
  have h2 : bestL (n - 1) (withoutL n a i) (withoutL n a i) = n - 1 := by
    have h3 := (far_zero (less_tree t (by omega) h5 hi) (less_tree t (by omega) h5 hi)).mpr rfl
    have h4 := best_le (n - 1) (withoutL n a i) (withoutL n a i)
    unfold farN at h3
    omega
  have h4 := best_le n a (cutPutL a i j)
  have h6 := far_zero t tc
  by_cases e : cutPutL a i j = a
  · rw [if_pos e]; exact h6.mpr e.symm
  · rw [if_neg e]
    have : farN n a (cutPutL a i j) ≠ 0 := fun z => e (h6.mp z).symm
    unfold farN at *
    omega
/-! new names -/
theorem name_rel {line : Lot} (t : Tree n a) (p : Perm n line) : RelT n (fun x => line.getD x 0) a (namedL a line) := by
  have mem : ∀ l, l ∈ namedL a line ↔ ∃ m ∈ a, ren line m = l := fun l => by
    unfold namedL; rw [sortL_mem, nameL_ren, List.mem_map]
  have key : ∀ m ∈ a, ∀ x, x < n → (x ∈ m ↔ line.getD x 0 ∈ ren line m) := fun m hm x hx => (ren_sub p (t.mem m hm).2.1 (t.mem m hm).2.1 hx).symm
  refine ⟨fun m hm => ⟨ren line m, (mem _).mpr ⟨m, hm, rfl⟩, key m hm⟩, fun m hm x y hx hy ne h1 h2 => ?_, tst t, tst (t.named p)⟩
  obtain ⟨m', hm', rfl⟩ := (mem m).mp hm
  exact ⟨m', hm', key m' hm'⟩
theorem far_named {line : Lot} (t : Tree n a) (u : Tree n b) (p : Perm n line) : farN n (namedL a line) (namedL b line) = farN n a b := by
  have J : InjN n n (fun x => line.getD x 0) := ⟨fun x hx => p.lt hx, fun x y hx hy e => p.inj hx hy e⟩
  have R := name_rel t p
  have U := name_rel u p
  have h1 := best_img R U J
  have h2 : bestL n (namedL a line) (namedL b line) ≤ bestL n a b := by
    obtain ⟨h, i, ag, e⟩ := best_ex n (namedL a line) (namedL b line)
    have ik : InN n ((List.range n).filter fun x => decide (line.getD x 0 ∈ h)) := (inN_range n).filter _
    have sub : ∀ y ∈ img (fun x => line.getD x 0) ((List.range n).filter fun x => decide (line.getD x 0 ∈ h)), y ∈ h := fun y hy => by
      obtain ⟨x, hx, rfl⟩ := img_mem.mp hy
      exact of_decide_eq_true (List.mem_filter.mp hx).2
    have ag2 := (agr_img R U J ik).mpr (ag.sub sub)
    have h1 := best_ge ik ag2
    have h2 : h.length ≤ (img (fun x => line.getD x 0) ((List.range n).filter fun x => decide (line.getD x 0 ∈ h))).length := nodup_len i.nd fun y hy => by
      have hy' : y ∈ line := p.p.mem_iff.mpr (List.mem_range.mpr (i.lt y hy))
      obtain ⟨x, hx, e⟩ := List.mem_iff_getElem.mp hy'
      have hxn : x < n := by rw [p.len] at hx; exact hx
      have e2 : line.getD x 0 = y := by rw [List.getD_eq_getElem?_getD, List.getElem?_eq_getElem hx]; exact e
      exact img_mem.mpr ⟨x, List.mem_filter.mpr ⟨List.mem_range.mpr hxn, decide_eq_true (by rw [e2]; exact hy)⟩, e2⟩
    rw [img_len] at h2
    omega
  unfold farN
  omega
theorem named_ord {line : Lot} (t : Tree n a) (p : Perm n line) : renameL a line = namedL a line := by
  have tn := t.named p
  refine sorted_ext (ordL_sorted _) tn.sorted (ordL_nodup _) tn.nodup fun x => ?_
  show x ∈ ordL _ ↔ x ∈ sortL _
  rw [ordL_mem, sortL_mem]
end Fk
/-! for the law's own defs: what is shown, and compared as shown -/
namespace Fk
open PySem PySem.Spec PyProof.Rows L2
variable {K : PySem.W.Frag} {B : Hp} {ρ : List Sl} {te tf ta : TE} {n : Nat} {a b : List Lot}
theorem eqv_tree (n m : Nat) (a b : List Lot) : PyData.eqv (eTree n a) (eTree m b) = (decide (n = m) && decide (a = b)) := by
  unfold eTree eLots
  simp only [PyData.eqv, PyData.eqvAll, Bool.and_true]
  rw [eqvs_lotsL, eqv_I]
theorem sh_tree (t : Tree n a) (h : n ≤ 9) : SeqAt.shaped (eTree n a) = true := okD_shaped ((okw_tree t h).ok (by decide) (by decide))
theorem ed_reprI (h : EvD K B te ρ (eI n)) (hn : n < 1000000) : EvD K B (tCB (rRepr K) (tCons te tNil)) ρ (.str (PyData.shown (eI n))) := ed_cb (ea_cons h ea_nil) (rc_reprI (by rw [Int.natAbs_natCast]; exact hn))
theorem ed_reprL {ds : List PyData} (h : EvD K B te ρ (.list ds)) (ok : okD (.list ds) = true) : EvD K B (tCB (rRepr K) (tCons te tNil)) ρ (.str (PyData.shown (.list ds))) := ed_cb (ea_cons h ea_nil) (rc_reprL ok)
theorem ed_neStr {x y : Str} (h1 : EvD K B te ρ (.str x)) (h2 : EvD K B tf ρ (.str y)) : EvD K B (tOp rNe te tf) ρ (.bool (!decide (x = y))) := ed_op h1 h2 fun v u H k1 k2 Q q => by
  obtain rfl := dp_str k1
  obtain rfl := dp_str k2
  refine ⟨rfl, ?_⟩
  have e : decide (V.str x = V.str y) = decide (x = y) := decide_eq_decide.mpr ⟨fun z => V.str.inj z, fun z => by rw [z]⟩
  rw [e]
  exact q _ H Ex.rf (.bl _)
theorem ed_eqStr {x y : Str} (h1 : EvD K B te ρ (.str x)) (h2 : EvD K B tf ρ (.str y)) : EvD K B (tOp rEq te tf) ρ (.bool (decide (x = y))) := ed_op h1 h2 fun v u H k1 k2 Q q => by
  obtain rfl := dp_str k1
  obtain rfl := dp_str k2
  refine ⟨rfl, ?_⟩
  have e : decide (V.str x = V.str y) = decide (x = y) := decide_eq_decide.mpr ⟨fun z => V.str.inj z, fun z => by rw [z]⟩
  rw [e]
  exact q _ H Ex.rf (.bl _)
theorem ok_ints {l : List Nat} (h : ∀ x ∈ l, x < 1000000) (hl : l.length ≤ 100) : okD (.list (l.map eI)) = true := (okw_lst (k := 0) (w := 20) (m := 100) (by
  intro d hd
  obtain ⟨x, hx, rfl⟩ := List.mem_map.mp hd
  exact okw_I (h x hx)) (by simpa using hl)).ok (by decide) (by decide)
theorem ed_treeN (h : EvD K B te ρ (eTree n a)) : EvD K B (tOp (rIxT K) te (tC (.int 0))) ρ (eI n) := ed_size h
theorem far_le (n : Nat) (a b : List Lot) : farN n a b ≤ n := by unfold farN; omega
/-- the law's own way to it -/
theorem far_law (t : Tree n a) (u : Tree n b) (h : n ≤ 9) : R__law_far [eTree n a, eTree n b] (eI (farN n a b)) := by
  refine ⟨n, a, b, bestL n a b, rfl, h, t.l10 h, u.l10 h, by have := t.len h; omega, by have := u.len h; omega, fun l hl => by have := t.ll hl; omega, fun l hl => by have := u.ll hl; omega, ⟨?_, fun y hy => ?_⟩, rfl⟩
  · obtain ⟨k, i, ag, e⟩ := best_ex n a b
    exact List.mem_map.mpr ⟨k, List.mem_filter.mpr ⟨lotsL_mem.mpr ⟨InN.go.mpr i, Nat.zero_le _⟩, decide_eq_true ag⟩, e⟩
  · obtain ⟨k, hk, rfl⟩ := List.mem_map.mp hy
    obtain ⟨h1, h2⟩ := List.mem_filter.mp hk
    exact best_ge (InN.go.mp (lotsL_mem.mp h1).1) (of_decide_eq_true h2)
theorem ed_dist {E : XK} (t : Tree n a) (u : Tree n b) (h0 : 0 < n) (h5 : n ≤ 5) (h1 : EvD K B te ρ (eTree n a)) (h2 : EvD K B tf ρ (eTree n b)) : EvD K B (tCall (spD K R_distance) [] E (tCons te (tCons tf tNil))) ρ (eI (farN n a b)) :=
  ed_call (ea_cons h1 (ea_cons h2 ea_nil)) (dist_ok t u h0 h5)
theorem ed_far {E : XK} (t : Tree n a) (u : Tree n b) (h9 : n ≤ 9) (h1 : EvD K B te ρ (eTree n a)) (h2 : EvD K B tf ρ (eTree n b)) : EvD K B (tCall (spD K R__law_far) [] E (tCons te (tCons tf tNil))) ρ (eI (farN n a b)) :=
  ed_call (ea_cons h1 (ea_cons h2 ea_nil)) (far_law t u h9)
end Fk
/-! the walks, 21: by three, by parts -/
namespace Fk
open PySem PySem.Spec PyProof.Rows L2
section
variable {P : Program} {w : World} {K : PySem.W.Frag} {mg : Str → Option Value} {base : Heap}
theorem shown_0 : PyData.shown (eI 0) = "0" := by decide +kernel
theorem far_lt {n : Nat} (h : n ≤ 9) (a b : List Lot) : farN n a b < 1000000 := by have := far_le n a b; omega
theorem max_three (x y z : Nat) : maxI ([x, y, z].map fun i : Nat => (i : Int)) = ((max x (max y z) : Nat) : Int) := by
  simp only [List.map_cons, List.map_nil, maxI]; omega
theorem sum_three (x y z : Nat) : ([x, y, z].map fun i : Nat => (i : Int)).sum = ((x + y + z : Nat) : Int) := by
  simp; omega
def R__law_by_three (ds : List PyData) (d : PyData) : Prop := ∃ (n : Nat) (a b c : List Lot), ds = [eTree n a, eTree n b, eTree n c] ∧ 0 < n ∧ n ≤ 5 ∧ Tree n a ∧ Tree n b ∧ Tree n c ∧ d = .bool true
abbrev sp__law_by_three (K : PySem.W.Frag) : Sp := spD K R__law_by_three
theorem len__law_by_three : ∀ ds d, R__law_by_three ds d → ds.length = 3 := by rintro ds d ⟨n, a, b, c, rfl, _⟩; rfl
-- slots: _law_one:0 _law_two:1 _law_three:2 _law_far_here:3  level 10
abbrev N__law_by_three : List Str := ["_law_one", "_law_two", "_law_three", "_law_far_here"]
theorem sc__law_by_three : FnScope N__law_by_three ["_law_one", "_law_two", "_law_three"] (defScope s__law_by_three) := ⟨rfl, rfl, rfl, by decide +kernel, rfl, by decide +kernel, by decide +kernel⟩
theorem bd__law_by_three : BindsBy "_law_by_three" s__law_by_three ["_law_one", "_law_two", "_law_three"] := fun _ _ _ _ _ _ us hl => match us, hl with | [_, _, _], _ => rfl
theorem ok__law_by_three (F : Here K mg "_law_by_three" s__law_by_three) (bs : Bs mg) (h__law_far : Ok P w K mg base 6 "_law_far" ["_law_one", "_law_two"] (sp__law_far K)) (h_distance : OkX P w K mg base 9 "distance" "tree" "other" (sp_distance K)) : Ok P w K mg base 10 "_law_by_three" ["_law_one", "_law_two", "_law_three"] (sp__law_by_three K) := by
  have nd := sc__law_by_three.nd
  refine mkG F sc__law_by_three bd__law_by_three (lenD len__law_by_three) fun f cdv A outer s H E hg hr => ⟨_, (pss_cons (ps_set (i := 3) nd rfl (Or.inl rfl) (pe_lst (pa_cons (pe_callN h_distance.ok hg hr rfl (pa_cons (pv 0) (pa_cons (pv 1) pa_nil))) (pa_cons (pe_callN h_distance.ok hg hr rfl (pa_cons (pv 1) (pa_cons (pv 2) pa_nil))) (pa_cons (pe_callN h_distance.ok hg hr rfl (pa_cons (pv 2) (pa_cons (pv 0) pa_nil))) pa_nil)))))
    (pss_cons (ps_if (pt_cmpR op_ne (pe_callB (cr_reprk K rfl hg hr) rfl bs.repr (by decide +kernel) (pa_cons (pv 3) pa_nil)) (pe_callB (cr_reprk K rfl hg hr) rfl bs.repr (by decide +kernel) (pa_cons (pe_lst (pa_cons (pe_callN h__law_far hg (hr.mono (by decide)) rfl (pa_cons (pv 0) (pa_cons (pv 1) pa_nil))) (pa_cons (pe_callN h__law_far hg (hr.mono (by decide)) rfl (pa_cons (pv 1) (pa_cons (pv 2) pa_nil))) (pa_cons (pe_callN h__law_far hg (hr.mono (by decide)) rfl (pa_cons (pv 0) (pa_cons (pv 2) pa_nil))) pa_nil)))) pa_nil)) (nomark _)) (pss_cons (ps_ret pe_bl)
    pss_nil) pss_nil)
    (pss_cons (ps_if (PW.pt (pw_or (pt_cmpR op_ne (pe_callB (cr_reprk K rfl hg hr) rfl bs.repr (by decide +kernel) (pa_cons (pe_callX h_distance hg hr rfl (pk_cons (pv 0) (pk_cons (pv 1) pk_nil))) pa_nil)) (pe_callB (cr_reprk K rfl hg hr) rfl bs.repr (by decide +kernel) (pa_cons (pe_ix (ix_lk K rfl) (pv 3) pe_int (fun _ _ => rfl)) pa_nil)) (nomark _)) (pw_or1 (pt_cmpR op_gt (pe_op op_mul pe_int (pe_callB (cr_maxk K rfl rfl) rfl bs.max (by decide +kernel) (pa_cons (pv 3) pa_nil))) (pe_callB (cr_sumk K rfl rfl) rfl bs.sum (by decide +kernel) (pa_cons (pv 3) pa_nil)) (nomark _))))) (pss_cons (ps_ret pe_bl)
    pss_nil) pss_nil)
    (pss_cons (ps_ret (pe_and (pe_cmpR op_le (pe_callB (cr_maxk K rfl rfl) rfl bs.max (by decide +kernel) (pa_cons (pv 3) pa_nil)) (pe_callB (cr_max2 rfl) rfl bs.max (by decide +kernel) (pa_cons pe_int (pa_cons (pe_op op_sub (pe_ix (ix_tk K rfl) (pv 0) pe_int (fun _ _ => rfl)) pe_int) pa_nil))) (nomark _)) (pe_and (pe_cmpR (op_eqk K rfl hr.units) (pe_cmpR (op_eqk K rfl hr.units) (pe_ix (ix_lk K rfl) (pv 3) pe_int (fun _ _ => rfl)) pe_int (nomark _)) (pe_cmpR (op_eqk K rfl hr.units) (pv 0) (pv 1) (nomark _)) (nomark _)) (pe_one (pe_cmpR op_eq (pe_callB (cr_reprk K rfl hg hr) rfl bs.repr (by decide +kernel) (pa_cons (pe_callN h_distance.ok hg hr rfl (pa_cons (pv 0) (pa_cons (pv 0) pa_nil))) pa_nil)) pe_str (nomark _))))))
    pss_nil)))), runD fun B ds d hR D hD => ?_⟩
  obtain ⟨n, a, b, c, rfl, h0, h5, ta, tb, tc, rfl⟩ := hR
  have n9 : n ≤ 9 := by omega
  have m3 : ∀ {ρ : List Sl} {i : Nat} {p : Addr}, ρ[i]? = some (.l p ([farN n a b, farN n b c, farN n c a].map eI)) → EvD K B (tCB (L2.rMax K) (tCons (tVar i) tNil)) ρ (eI (max (farN n a b) (max (farN n b c) (farN n c a)))) := fun h =>
    ed_is (ed_cb (ea_cons (ed_is (ed_varL h) (by rw [map_eI])) ea_nil) (rc_max (by simp))) (by rw [max_three]; rfl)
  have s3 : ∀ {ρ : List Sl} {i : Nat} {p : Addr}, ρ[i]? = some (.l p ([farN n a b, farN n b c, farN n c a].map eI)) → EvD K B (tCB (L2.rSum K) (tCons (tVar i) tNil)) ρ (eI (farN n a b + farN n b c + farN n c a)) := fun h =>
    ed_is (ed_cb (ea_cons (ed_is (ed_varL h) (by rw [map_eI])) ea_nil) rc_sum) (by rw [sum_three]; rfl)
  refine q_asgL (ds := [farN n a b, farN n b c, farN n c a].map eI) (el_lst (ea_cons (ed_dist ta tb h0 h5 (ed_var rfl) (ed_var rfl)) (ea_cons (ed_dist tb tc h0 h5 (ed_var rfl) (ed_var rfl)) (ea_cons (ed_dist tc ta h0 h5 (ed_var rfl) (ed_var rfl)) ea_nil))) (by simp)) (nls_I _) fun p np => ?_
  have okF : okD (.list ([farN n a b, farN n b c, farN n c a].map eI)) = true := ok_ints (by
    intro x hx
    simp only [List.mem_cons, List.not_mem_nil, or_false] at hx
    rcases hx with rfl | rfl | rfl <;> exact far_lt n9 _ _) (by simp)
  refine q_if (b := false) (et_is (et_test (ed_neStr (ed_reprL (ed_varL rfl) okF) (ed_reprL (ds := [farN n a b, farN n b c, farN n c a].map eI) (ed_L (el_lst (ea_cons (ed_far ta tb n9 (ed_var rfl) (ed_var rfl)) (ea_cons (ed_far tb tc n9 (ed_var rfl) (ed_var rfl)) (ea_cons (ed_is (ed_far ta tc n9 (ed_var rfl) (ed_var rfl)) (by rw [far_comm])) ea_nil))) (by simp))) okF))) (by simp)) (fun h => nomatch h) (fun _ => q_next ?_)
  have t1 := far_tri n a b c
  have t2 := far_tri n b c a
  have t3 := far_tri n c a b
  rw [far_comm n a c] at t1
  rw [far_comm n b a] at t2
  rw [far_comm n c b] at t3
  refine q_if (b := false) (et_is (et_or (a := false) (et_is (et_test (ed_neStr (ed_reprI (n := farN n a b) (ed_is (ed_callR (ea_cons (ed_var rfl) (ea_cons (ed_var rfl) ea_nil)) (dist_ok tb ta h0 h5)) (by rw [far_comm])) (far_lt n9 _ _)) (ed_reprI (n := farN n a b) (ed_op (ed_varL rfl) ed_int (rd_ixL (i := 0) rfl)) (far_lt n9 _ _)))) (by simp)) fun _ => et_is (b' := false) (et_test (ed_is (ed_op (ed_op (x := .int 2) ed_int (m3 rfl) (rd_mulL ⟨by decide, by decide⟩)) (s3 rfl) rd_gt) (by congr 1; exact decide_eq_false (by omega)))) rfl) rfl) (fun h => nomatch h) (fun _ => q_next ?_)
  refine q_ret (d := .bool true) (ed_is (ed_andV (a := true) (ed_is (ed_op (m3 rfl) (ed_cb (ea_cons (d := .int 0) ed_int (ea_cons (ed_op (ed_size (ed_var rfl)) ed_int rd_sub) ea_nil)) rc_max2) rd_le) (by
    congr 1
    have f1 := far_two ta tb
    have f2 := far_two tb tc
    have f3 := far_two tc ta
    exact decide_eq_true (by omega))) fun _ => ed_andV (a := true) (b := true) (ed_is (ed_op (ed_op (x := eI (farN n a b)) (ed_op (ed_varL rfl) ed_int (rd_ixL (i := 0) rfl)) ed_int rd_eqI) (ed_op (ed_var rfl) (ed_var rfl) (rd_eq (sh_tree ta n9) (sh_tree tb n9))) (rd_eq (by simp [SeqAt.shaped, PyData.canLay0, PyData.depth]) (by simp [SeqAt.shaped, PyData.canLay0, PyData.depth]))) (by
    congr 1
    rw [eqv_tree]
    have fz := far_zero ta tb
    by_cases e : a = b
    · simp [e, PyData.eqv]; simpa [e] using fz
    · simp [e, PyData.eqv]; simpa [e] using fz)) fun _ => ed_is (ed_eqStr (ed_reprI (n := 0) (ed_is (ed_dist ta ta h0 h5 (ed_var rfl) (ed_var rfl)) (by rw [(far_zero ta ta).mpr rfl])) (by decide)) ed_str) (by rw [shown_0]; rfl)) rfl) fun v H' e _ h => hD v H' e h
def R__law_by_parts (ds : List PyData) (d : PyData) : Prop := ∃ (n : Nat) (a : List Lot), ds = [eTree n a] ∧ 0 < n ∧ n ≤ 5 ∧ Tree n a ∧ d = .bool true
abbrev sp__law_by_parts (K : PySem.W.Frag) : Sp := spD K R__law_by_parts
theorem len__law_by_parts : ∀ ds d, R__law_by_parts ds d → ds.length = 1 := by rintro ds d ⟨n, a, rfl, _⟩; rfl
theorem wide_max (a : List Lot) : IsMax (1 :: a.map fun m => (partsL a m).length) (wideL a) := by
  refine ⟨?_, fun y hy => maxN_ge (.inl hy)⟩
  rcases maxN_mem (l := 1 :: a.map fun m => (partsL a m).length) (m := 0) with h | h
  · exact h
  · have := maxN_ge (l := 1 :: a.map fun m => (partsL a m).length) (m := 0) (x := 1) (.inl List.mem_cons_self)
    omega
-- slots: _law_own:0c _law_wide:1 _law_nest:2  level 10
abbrev N__law_by_parts : List Str := ["_law_own", "_law_wide", "_law_nest"]
theorem sc__law_by_parts : FnScope N__law_by_parts ["_law_own"] (defScope s__law_by_parts) := ⟨rfl, rfl, rfl, by decide +kernel, rfl, by decide +kernel, by decide +kernel⟩
theorem bd__law_by_parts : BindsBy "_law_by_parts" s__law_by_parts ["_law_own"] := fun _ _ _ _ _ _ us hl => match us, hl with | [_], _ => rfl
theorem ok__law_by_parts (F : Here K mg "_law_by_parts" s__law_by_parts) (bs : Bs mg) (h_distance : Ok P w K mg base 9 "distance" ["tree", "other"] (sp_distance K)) (h_parts : Ok P w K mg base 5 "parts" ["tree", "nest"] (sp_parts K)) : Ok P w K mg base 10 "_law_by_parts" ["_law_own"] (sp__law_by_parts K) := by
  have nd := sc__law_by_parts.nd
  refine mkG F sc__law_by_parts bd__law_by_parts (lenD len__law_by_parts) fun f cdv A outer s H E hg hr => ⟨_, (pss_cons (ps_set (i := 1) nd rfl (Or.inl rfl) (pe_callB (cr_maxk K rfl rfl) rfl bs.max (by decide +kernel) (pa_cons (pe_op op_cat (pe_lst (pa_cons pe_int pa_nil)) (pe_lc (own := [("_law_nest", 2)]) rfl nd (pi_tk K rfl (pe_ix (ix_tk K rfl) (pv 0) pe_int (fun _ _ => rfl))) (blk1 rfl rfl rfl rfl rfl) (fun _ _ _ _ _ => pg_name (i := 2) nd rfl (by first | exact Or.inl rfl | exact Or.inr rfl)) (fun _ _ _ _ _ => pts_nil) (fun _ _ _ _ _ => (pe_callB (cr_lenk K rfl) rfl bs.len boot_len (pa_cons (pe_callN h_parts hg (hr.mono (by decide)) rfl (pa_cons (pv 0) (pa_cons (pv 2) pa_nil))) pa_nil))))) pa_nil)))
    (pss_cons (ps_ret (pe_cmpR op_eq (pe_callB (cr_reprk K rfl hg hr) rfl bs.repr (by decide +kernel) (pa_cons (pe_callN h_distance hg hr rfl (pa_cons (pv 0) (pa_cons (pe_tup (pa_cons (pe_ix (ix_tk K rfl) (pv 0) pe_int (fun _ _ => rfl)) (pa_cons (pe_slice (sl_tk K rfl) (pe_ix (ix_tk K rfl) (pv 0) pe_int (fun _ _ => rfl)) (po_some (pe_un un_neg pe_int)) po_none) pa_nil))) pa_nil))) pa_nil)) (pe_callB (cr_reprk K rfl hg hr) rfl bs.repr (by decide +kernel) (pa_cons (pe_op op_sub (pe_ix (ix_tk K rfl) (pv 0) pe_int (fun _ _ => rfl)) (pv 1)) pa_nil)) (nomark _)))
    pss_nil)), runD fun B ds d hR D hD => ?_⟩
  obtain ⟨n, a, rfl, h0, h5, ta, rfl⟩ := hR
  have n9 : n ≤ 9 := by omega
  have al := ta.len n9
  refine q_asg (d := eI (wideL a)) (ed_is (ed_cb (ea_cons (ed_is (d' := .list ([eI 1] ++ a.map fun m => eI (partsL a m).length)) (ed_L (el_catLL (el_lst (ea_cons ed_int ea_nil) (by simp)) (el_lcT' (xs := a) (enc := eLot) (ed_nests (ed_var rfl)) (by omega) (fun m _ => nl_Lot m) (fun m hm => ed_lenLots (ed_call (ea_cons (ed_var rfl) (ea_cons (ed_var rfl) ea_nil)) ⟨n, a, m, rfl, ta.l10 n9, by omega, hm, ?_, rfl⟩)) fun m _ => rfl) (by simp; omega))) (d := .list (((1 :: a.map fun m => (partsL a m).length).map fun x : Nat => (x : Int)).map PyData.int)) (by simp [eI])) ea_nil) (rc_max (by simp))) (by rw [max_nat (wide_max a)]; rfl)) rfl ?_
  · exact ((chk ta h0 h5).2.2 m (ordL_mem.mpr (List.mem_append_left _ hm))).1 (by have := (ta.mem m hm).2.2; omega) |>.2
  have fw := far_wide ta h0 h5
  refine q_ret (d := .bool true) (ed_is (ed_eqStr (ed_reprI (n := farN n a (bushL a)) (ed_dist ta ta.bush h0 h5 (ed_var rfl) (ed_tup (ea_cons (ed_size (ed_var rfl)) (ea_cons (ed_bush (ed_var rfl)) ea_nil)) (by simp))) (far_lt n9 _ _)) (ed_reprI (n := n - wideL a) (ed_is (ed_op (ed_size (ed_var rfl)) (ed_var rfl) rd_sub) (by rw [sub_nat fw.2]; rfl)) (by omega))) (by rw [fw.1]; simp)) fun v H' e _ h => hD v H' e h
end
end Fk
/-! the walks, 22: by less, by more -/
namespace Fk
open PySem PySem.Spec PyProof.Rows L2
section
variable {K : PySem.W.Frag} {B : Hp} {S : Addr → Prop} {Z : Hp → Prop} {ρ : List Sl} {te tf tg : TE} {ta tb : TE} {tz : TS} {D : Ends} {d : PyData} {n m : Nat} {a b : List Lot} {l : Lot} [zk : ZK S Z]
omit zk in
theorem ax_nil {Po : List PyData → List Sl → Prop} (h : Po [] ρ) : EvAX K B S Z tNil ρ Po := fun σ H a Q q => q [] H [] ρ h TX.refl a .nil
theorem ex_dw {Po : PyData → List Sl → Prop} (h : EvD K B te ρ d) (p : Po d ρ) : EvX K B S Z te ρ Po := ex_w (ex_d h) (by rintro _ _ ⟨rfl, rfl⟩; exact p)
theorem q_parXL {i j : Nat} {Pa : PyData → List Sl → Prop} {Po : PyData → List PyData → Prop} (ha : EvX K B S Z ta ρ Pa) (hb : ∀ d ρ', Pa d ρ' → noL d = true ∧ ρ' = ρ ∧ EvXL K B S Z tb ρ (Po d))
    (k : ∀ d es, Pa d ρ → Po d es → noLs es = true ∧ ∀ p, New B S ρ p → TrR K B S Z tz ((ρ.set i (.d d)).set j (.l p es)) D) : TrR K B S Z (tSeq (tPar i j (tCons ta (tCons tb tNil))) tz) ρ D := fun σ H a =>
  ha σ H a _ fun v H1 d ρ' pd tx a1 hv => by
    obtain ⟨nd, e, hb⟩ := hb d ρ' pd
    subst e
    exact hb σ H1 a1 _ fun p vs H2 es pe tx2 a2 np h1 h2 => ⟨_, _, rfl, (k d es pd pe).2 p np _ _ ((a2.set (i := i) (sd nd (dp_tx tx2 _ _ nd hv))).set (i := j) (s := .l p es) ⟨rfl, vs, h1, h2, (k d es pd pe).1⟩)⟩
theorem ed_eqTree (t : Tree n a) (u : Tree n b) (h : n ≤ 9) (h1 : EvD K B te ρ (eTree n a)) (h2 : EvD K B tf ρ (eTree n b)) : EvD K B (tOp (rEqD K) te tf) ρ (.bool (decide (a = b))) :=
  ed_is (ed_op h1 h2 (rd_eq (sh_tree t h) (sh_tree u h))) (by rw [eqv_tree]; simp)
theorem put_R (t : Tree n a) (h4 : n ≤ 4) (i : InN n l) : R_put_in [eTree n a, eLot l] (eTree (n + 1) (putInL n a l)) :=
  ⟨n, a, l, rfl, by omega, t.l10 (by omega), fun x hx => by have := i.lt x hx; omega, by have := t.len (by omega); omega, fun x hx => by have := t.ll hx; omega, by have := i.len; omega, rfl⟩
theorem ed_put {E : XK} (t : Tree n a) (h4 : n ≤ 4) (i : InN n l) (h1 : EvD K B te ρ (eTree n a)) (h2 : EvD K B tf ρ (eLot l)) : EvD K B (tCall (spD K R_put_in) [] E (tCons te (tCons tf tNil))) ρ (eTree (n + 1) (putInL n a l)) :=
  ed_call (ea_cons h1 (ea_cons h2 ea_nil)) (put_R t h4 i)
theorem sh_I2 (i j : Int) : SeqAt.shaped (.list [.int i, .int j]) = true := sh_ints [i, j]
theorem any_2 (i j k : Int) : ([PyData.int i, .int j].any fun z => PyData.eqv z (.int k)) = (decide (i = k) || decide (j = k)) := by
  simp only [List.any_cons, List.any_nil, Bool.or_false, PyData.eqv]
  rw [Bool.beq_eq_decide_eq, Bool.beq_eq_decide_eq]
theorem ed_reprO {b : Bool} {tt : TT} {x : Nat} (h : EvT K B tt ρ b) (e : x = if b = true then 0 else 1) : EvD K B (tCB (rRepr K) (tCons (tIf tt (tC (.int 0)) (tC (.int 1))) tNil)) ρ (.str (PyData.shown (eI x))) :=
  ed_reprI (ed_if h (fun hb => by rw [e, if_pos hb]; exact ed_int) (fun hb => by rw [e, if_neg (by rw [hb]; simp)]; exact ed_int)) (by rw [e]; split <;> decide)
end
section
variable {P : Program} {w : World} {K : PySem.W.Frag} {mg : Str → Option Value} {base : Heap}
def R__law_by_less (ds : List PyData) (d : PyData) : Prop := ∃ (n : Nat) (a b : List Lot), ds = [eTree n a, eTree n b, eI (farN n a b)] ∧ 0 < n ∧ n ≤ 5 ∧ Tree n a ∧ Tree n b ∧ d = .bool true
abbrev sp__law_by_less (K : PySem.W.Frag) : Sp := spZ K R__law_by_less
theorem len__law_by_less : ∀ ds es, R__law_by_less ds es → ds.length + 1 = 4 := by rintro ds d ⟨n, a, b, rfl, _⟩; rfl
theorem nl__law_by_less : ∀ ds es, R__law_by_less ds es → noLs ds = true := by rintro ds d ⟨n, a, b, rfl, _⟩; simp [noLs, noL, nl_Tree]; rfl
-- slots: _law_store_here:0 _law_one:1 _law_two:2 _law_far_here:3 _law_leaf:4  level 10
abbrev N__law_by_less : List Str := ["_law_store_here", "_law_one", "_law_two", "_law_far_here", "_law_leaf"]
theorem sc__law_by_less : FnScope N__law_by_less ["_law_store_here", "_law_one", "_law_two", "_law_far_here"] (defScope s__law_by_less) := ⟨rfl, rfl, rfl, by decide +kernel, rfl, by decide +kernel, by decide +kernel⟩
theorem bd__law_by_less : BindsBy "_law_by_less" s__law_by_less ["_law_store_here", "_law_one", "_law_two", "_law_far_here"] := fun _ _ _ _ _ _ us hl => match us, hl with | [_, _, _, _], _ => rfl
theorem ok__law_by_less (F : Here K mg "_law_by_less" s__law_by_less) (bs : Bs mg) (h__law_draw : Ok P w K mg base 1 "_law_draw" ["_law_store_here", "_law_size"] (sp__law_draw K)) (h_distance : Ok P w K mg base 9 "distance" ["tree", "other"] (sp_distance K)) (h_without : Ok P w K mg base 8 "without" ["tree", "leaf"] (sp_without K)) : Ok P w K mg base 10 "_law_by_less" ["_law_store_here", "_law_one", "_law_two", "_law_far_here"] (sp__law_by_less K) := by
  have nd := sc__law_by_less.nd
  refine mkG F sc__law_by_less bd__law_by_less (lenZ len__law_by_less) fun f cdv A outer s H E hg hr => ⟨_, (pss_cons (ps_if (pt_cmpR (op_eqk K rfl hr.units) (pe_ix (ix_tk K rfl) (pv 1) pe_int (fun _ _ => rfl)) pe_int (nomark _)) (pss_cons (ps_ret pe_bl)
    pss_nil) pss_nil)
    (pss_cons (ps_set (i := 4) nd rfl (Or.inl rfl) (pe_callN h__law_draw hg (hr.mono (by decide)) rfl (pa_cons (pv 0) (pa_cons (pe_ix (ix_tk K rfl) (pv 1) pe_int (fun _ _ => rfl)) pa_nil))))
    (pss_cons (ps_ret (pe_cmpR (op_ink K rfl (hu65 hr)) (pe_callN h_distance hg hr rfl (pa_cons (pe_callN h_without hg (hr.mono (by decide)) rfl (pa_cons (pv 1) (pa_cons (pv 4) pa_nil))) (pa_cons (pe_callN h_without hg (hr.mono (by decide)) rfl (pa_cons (pv 2) (pa_cons (pv 4) pa_nil))) pa_nil))) (pe_tup (pa_cons (pe_op op_sub (pv 3) pe_int) (pa_cons (pv 3) pa_nil))) (by with_unfolding_all rfl)))
    pss_nil))), runZ nl__law_by_less fun B st lf ln ds hR zs D hD => ?_⟩
  obtain ⟨d0, n, a, b, rfl, h0, h5, ta, tb, _⟩ := hR
  show TrR K B _ _ _ [.r st, .d (eTree n a), .d (eTree n b), .d (eI (farN n a b)), .un] _
  have n9 : n ≤ 9 := by omega
  have fin : ∀ v H', Ex B H' → StZ st lf ln H' → Dp K H' v (.bool true) → D.rt v H' := fun v H' e z h => hD _ v H' ⟨n, a, b, rfl, h0, h5, ta, tb, rfl⟩ e z h
  refine q_if (b := decide (n = 1)) (et_test (ed_eqN (b := 1) (ed_size (ed_var rfl)) ed_int)) (fun _ => q_ret (d := .bool true) ed_bl fin) (fun hn => q_next ?_)
  have hn2 : 2 ≤ n := by have := of_decide_eq_false hn; omega
  refine q_asgX (Po := fun d ρ' => ∃ r, r < n ∧ d = eI r ∧ ρ' = [.r st, .d (eTree n a), .d (eTree n b), .d (eI (farN n a b)), .un]) (ex_draw (n := n) zs rfl (ed_size (ed_var rfl)) h0 (by omega) (by simp [adrs]) (by simp [noT]) fun r hr => ⟨r, hr, rfl, rfl⟩) fun d ρ' hp => ?_
  obtain ⟨r, hr, rfl, rfl⟩ := hp
  refine ⟨rfl, ?_⟩
  show TrR K B _ _ _ [.r st, .d (eTree n a), .d (eTree n b), .d (eI (farN n a b)), .d (eI r)] _
  have wo : ∀ {i : Nat} {x : List Lot} {E : XK}, Tree n x → [Sl.r st, .d (eTree n a), .d (eTree n b), .d (eI (farN n a b)), .d (eI r)][i]? = some (.d (eTree n x)) → EvD K B (tCall (spD K R_without) [] E (tCons (tVar i) (tCons (tVar 4) tNil))) [Sl.r st, .d (eTree n a), .d (eTree n b), .d (eI (farN n a b)), .d (eI r)] (eTree (n - 1) (withoutL n x r)) := fun t h =>
    ed_is (ed_call (ea_cons (ed_var h) (ea_cons (ed_var rfl) ea_nil)) ⟨n, _, r, rfl, t.l10 n9, by have := t.len n9; omega, n9, hr, rfl⟩) (by rw [less_len t hn2 h5 hr])
  refine q_ret (d := .bool true) (ed_is (ed_op (ed_dist (less_tree ta hn2 h5 hr) (less_tree tb hn2 h5 hr) (by omega) (by omega) (wo ta rfl) (wo tb rfl)) (ed_tup (ea_cons (ed_op (ed_var rfl) ed_int rd_sub) (ea_cons (ed_var rfl) ea_nil)) (by simp)) (rd_inT (sh_I _) (sh_I2 _ _))) ?_) fin
  have fl := far_less ta tb hn2 h5 hr
  congr 1
  refine (any_2 _ _ _).trans ?_
  rw [Bool.or_eq_true, decide_eq_true_eq, decide_eq_true_eq]
  omega
def R__law_by_more (ds : List PyData) (d : PyData) : Prop := ∃ (n : Nat) (a b : List Lot), ds = [eTree n a, eTree n b, eI (farN n a b)] ∧ 0 < n ∧ n ≤ 4 ∧ Tree n a ∧ Tree n b ∧ d = .bool true
abbrev sp__law_by_more (K : PySem.W.Frag) : Sp := spZ K R__law_by_more
theorem len__law_by_more : ∀ ds es, R__law_by_more ds es → ds.length + 1 = 4 := by rintro ds d ⟨n, a, b, rfl, _⟩; rfl
theorem nl__law_by_more : ∀ ds es, R__law_by_more ds es → noLs ds = true := by rintro ds d ⟨n, a, b, rfl, _⟩; simp [noLs, noL, nl_Tree]; rfl
theorem some_in {n : Nat} {d : PyData} (h0 : 0 < n) (h : R__law_some [eI n, eI 1] d) : ∃ l : Lot, InN n l ∧ l ≠ [] ∧ d = eLot l := by
  obtain ⟨l, h1, h2, h3, rfl⟩ := some_of h
  exact ⟨l, ⟨h1, h2⟩, by rintro rfl; simp at h3; omega, rfl⟩
-- slots: _law_store_here:0 _law_one:1 _law_two:2 _law_far_here:3 _law_everyone:4 _law_left:5 _law_right:6 _law_near_here:7 _law_apart:8  level 10
abbrev N__law_by_more : List Str := ["_law_store_here", "_law_one", "_law_two", "_law_far_here", "_law_everyone", "_law_left", "_law_right", "_law_near_here", "_law_apart"]
theorem sc__law_by_more : FnScope N__law_by_more ["_law_store_here", "_law_one", "_law_two", "_law_far_here"] (defScope s__law_by_more) := ⟨rfl, rfl, rfl, by decide +kernel, rfl, by decide +kernel, by decide +kernel⟩
theorem bd__law_by_more : BindsBy "_law_by_more" s__law_by_more ["_law_store_here", "_law_one", "_law_two", "_law_far_here"] := fun _ _ _ _ _ _ us hl => match us, hl with | [_, _, _, _], _ => rfl
theorem ok__law_by_more (F : Here K mg "_law_by_more" s__law_by_more) (bs : Bs mg) (h__law_pick : Ok P w K mg base 2 "_law_pick" ["_law_store_here", "_law_row"] (sp__law_pick K)) (h__law_some : Ok P w K mg base 3 "_law_some" ["_law_store_here", "_law_size", "_law_least"] (sp__law_some K)) (h_distance : Ok P w K mg base 9 "distance" ["tree", "other"] (sp_distance K)) (h_put_in : Ok P w K mg base 6 "put_in" ["tree", "lot"] (sp_put_in K)) : Ok P w K mg base 10 "_law_by_more" ["_law_store_here", "_law_one", "_law_two", "_law_far_here"] (sp__law_by_more K) := by
  have nd := sc__law_by_more.nd
  refine mkG F sc__law_by_more bd__law_by_more (lenZ len__law_by_more) fun f cdv A outer s H E hg hr => ⟨_, (pss_cons (ps_set (i := 4) nd rfl (Or.inl rfl) (pe_tupRg rfl rfl bs.tuple (prg_1 rfl bs.range (pe_ix (ix_tk K rfl) (pv 1) pe_int (fun _ _ => rfl)))))
    (pss_cons (ps_if (pt_cmpR op_ne (pe_callB (cr_reprk K rfl hg hr) rfl bs.repr (by decide +kernel) (pa_cons (pe_callN h_distance hg hr rfl (pa_cons (pe_callN h_put_in hg (hr.mono (by decide)) rfl (pa_cons (pv 1) (pa_cons (pv 4) pa_nil))) (pa_cons (pe_callN h_put_in hg (hr.mono (by decide)) rfl (pa_cons (pv 2) (pa_cons (pv 4) pa_nil))) pa_nil))) pa_nil)) (pe_callB (cr_reprk K rfl hg hr) rfl bs.repr (by decide +kernel) (pa_cons (pv 3) pa_nil)) (nomark _)) (pss_cons (ps_ret pe_bl)
    pss_nil) pss_nil)
    (pss_cons (ps_par (i := 5) (j := 6) rfl nd rfl rfl (by decide) rfl rfl (pa_cons (pe_callN h__law_some hg (hr.mono (by decide)) rfl (pa_cons (pv 0) (pa_cons (pe_ix (ix_tk K rfl) (pv 1) pe_int (fun _ _ => rfl)) (pa_cons pe_int pa_nil)))) (pa_cons (pe_callN h__law_some hg (hr.mono (by decide)) rfl (pa_cons (pv 0) (pa_cons (pe_ix (ix_tk K rfl) (pv 1) pe_int (fun _ _ => rfl)) (pa_cons pe_int pa_nil)))) pa_nil)) rfl)
    (pss_cons (ps_par (i := 7) (j := 8) rfl nd rfl rfl (by decide) rfl rfl (pa_cons (pe_callN h_put_in hg (hr.mono (by decide)) rfl (pa_cons (pv 1) (pa_cons (pv 5) pa_nil))) (pa_cons (pe_callN h_put_in hg (hr.mono (by decide)) rfl (pa_cons (pv 1) (pa_cons (pv 6) pa_nil))) pa_nil)) rfl)
    (pss_cons (ps_if (pt_cmpR (op_nik K rfl (hu65 hr)) (pe_callN h_distance hg hr rfl (pa_cons (pv 7) (pa_cons (pe_callN h_put_in hg (hr.mono (by decide)) rfl (pa_cons (pv 2) (pa_cons (pe_callN h__law_pick hg (hr.mono (by decide)) rfl (pa_cons (pv 0) (pa_cons (pe_lst (pa_cons (pv 5) (pa_cons (pv 6) pa_nil))) pa_nil))) pa_nil))) pa_nil))) (pe_tup (pa_cons (pv 3) (pa_cons (pe_op op_add (pv 3) pe_int) pa_nil))) (by with_unfolding_all rfl)) (pss_cons (ps_ret pe_bl)
    pss_nil) pss_nil)
    (pss_cons (ps_ret (pe_cmpR op_eq (pe_callB (cr_reprk K rfl hg hr) rfl bs.repr (by decide +kernel) (pa_cons (pe_callN h_distance hg hr rfl (pa_cons (pv 7) (pa_cons (pv 8) pa_nil))) pa_nil)) (pe_callB (cr_reprk K rfl hg hr) rfl bs.repr (by decide +kernel) (pa_cons (pe_ifExp (pt_cmpR (op_eqk K rfl hr.units) (pv 7) (pv 8) (nomark _)) pe_int pe_int) pa_nil)) (nomark _)))
    pss_nil)))))), runZ nl__law_by_more fun B st lf ln ds hR zs D hD => ?_⟩
  obtain ⟨d0, n, a, b, rfl, h0, h4, ta, tb, _⟩ := hR
  show TrR K B _ _ _ [.r st, .d (eTree n a), .d (eTree n b), .d (eI (farN n a b)), .un, .un, .un, .un, .un] _
  have n9 : n ≤ 9 := by omega
  have fin : ∀ v H', Ex B H' → StZ st lf ln H' → Dp K H' v (.bool true) → D.rt v H' := fun v H' e z h => hD _ v H' ⟨n, a, b, rfl, h0, h4, ta, tb, rfl⟩ e z h
  refine q_asg (d := eLot (List.range n)) (ed_is (ed_tupRg (n := n) (ed_size (ed_var rfl)) (by omega)) (by rw [rangeD_I]; rfl)) (nl_Lot _) ?_
  show TrR K B _ _ _ [.r st, .d (eTree n a), .d (eTree n b), .d (eI (farN n a b)), .d (eLot (List.range n)), .un, .un, .un, .un] _
  have rn : List.range n ≠ [] := by intro e; have := congrArg List.length e; simp at this; omega
  have ir := inN_range n
  refine q_if (b := false) (et_is (et_test (ed_neStr (ed_reprI (n := farN n a b) (ed_is (ed_dist (more_tree ta h0 h4 ir rn) (more_tree tb h0 h4 ir rn) (by omega) (by omega) (ed_put ta h4 ir (ed_var rfl) (ed_var rfl)) (ed_put tb h4 ir (ed_var rfl) (ed_var rfl))) (by rw [far_all ta tb h0 h4])) (far_lt n9 _ _)) (ed_reprI (n := farN n a b) (ed_var rfl) (far_lt n9 _ _)))) (by simp)) (fun h => nomatch h) (fun _ => q_next ?_)
  have sm : ∀ {E : XK}, EvX K B (StS st lf ln) (StZ st lf ln) (tCall (spZ K R__law_some) [] E (tCons (tVar 0) (tCons (tOp (rIxT K) (tVar 1) (tC (.int 0))) (tCons (tC (.int 1)) tNil)))) [.r st, .d (eTree n a), .d (eTree n b), .d (eI (farN n a b)), .d (eLot (List.range n)), .un, .un, .un, .un] fun d ρ' => (∃ l : Lot, InN n l ∧ l ≠ [] ∧ d = eLot l) ∧ ρ' = [.r st, .d (eTree n a), .d (eTree n b), .d (eI (farN n a b)), .d (eLot (List.range n)), .un, .un, .un, .un] := fun {E} =>
    ex_w (ex_call (R := R__law_some) (ds := [eI n, eI 1]) zs ⟨by simp [adrs], by simp [noT]⟩ rfl (ea_cons (ed_size (ed_var rfl)) (ea_cons ed_int ea_nil)) ⟨_, n, 1, List.range n, rfl, n9, range_strict n, fun x hx => List.mem_range.mp hx, .inr (by simp), rfl⟩) fun d ρ' ⟨hd, e⟩ => ⟨some_in h0 hd, e⟩
  refine q_parX (Po := fun ds ρ' => ∃ l k : Lot, InN n l ∧ l ≠ [] ∧ InN n k ∧ k ≠ [] ∧ ds = [eLot l, eLot k] ∧ ρ' = [.r st, .d (eTree n a), .d (eTree n b), .d (eI (farN n a b)), .d (eLot (List.range n)), .un, .un, .un, .un]) (ax_cons sm (by rintro d ρ' ⟨⟨l, _, _, rfl⟩, _⟩; exact nl_Lot l) ?_) fun ds ρ' hp => ?_
  · rintro d ρ' ⟨⟨l, i1, i2, rfl⟩, rfl⟩
    refine ax_cons sm (by rintro d ρ' ⟨⟨l, _, _, rfl⟩, _⟩; exact nl_Lot l) ?_
    rintro d ρ' ⟨⟨k, i3, i4, rfl⟩, rfl⟩
    exact ax_nil ⟨l, k, i1, i2, i3, i4, rfl, rfl⟩
  obtain ⟨l, k, i1, i2, i3, i4, rfl, rfl⟩ := hp
  refine ⟨_, _, rfl, nl_Lot _, nl_Lot _, ?_⟩
  show TrR K B _ _ _ [.r st, .d (eTree n a), .d (eTree n b), .d (eI (farN n a b)), .d (eLot (List.range n)), .d (eLot l), .d (eLot k), .un, .un] _
  refine q_parDD (ea_cons (ed_put ta h4 i1 (ed_var rfl) (ed_var rfl)) (ea_cons (ed_put ta h4 i3 (ed_var rfl) (ed_var rfl)) ea_nil)) (nl_Tree _ _) (nl_Tree _ _) ?_
  generalize hρ : [Sl.r st, .d (eTree n a), .d (eTree n b), .d (eI (farN n a b)), .d (eLot (List.range n)), .d (eLot l), .d (eLot k), .d (eTree (n + 1) (putInL n a l)), .d (eTree (n + 1) (putInL n a k))] = ρ0
  show TrR K B _ _ _ [Sl.r st, .d (eTree n a), .d (eTree n b), .d (eI (farN n a b)), .d (eLot (List.range n)), .d (eLot l), .d (eLot k), .d (eTree (n + 1) (putInL n a l)), .d (eTree (n + 1) (putInL n a k))] _
  rw [hρ]
  have fn : Fine (StS st lf ln) ρ0 := by subst hρ; exact ⟨by simp [adrs], by simp [noT]⟩
  have r0 : ρ0[0]? = some (.r st) := by subst hρ; rfl
  have r2 : ρ0[2]? = some (.d (eTree n b)) := by subst hρ; rfl
  have r3 : ρ0[3]? = some (.d (eI (farN n a b))) := by subst hρ; rfl
  have r5 : ρ0[5]? = some (.d (eLot l)) := by subst hρ; rfl
  have r6 : ρ0[6]? = some (.d (eLot k)) := by subst hρ; rfl
  have r7 : ρ0[7]? = some (.d (eTree (n + 1) (putInL n a l))) := by subst hρ; rfl
  have r8 : ρ0[8]? = some (.d (eTree (n + 1) (putInL n a k))) := by subst hρ; rfl
  have tl := more_tree ta h0 h4 i1 i2
  have tk := more_tree ta h0 h4 i3 i4
  refine q_ifX (Po := fun c ρ' => c = false ∧ ρ' = ρ0) (tx_test (ex_bin (Pa := fun d ρ' => (∃ j : Lot, InN n j ∧ j ≠ [] ∧ d = eI (farN (n + 1) (putInL n a l) (putInL n b j))) ∧ ρ' = ρ0) (ex_pure (Pa := fun ds ρ' => (∃ j : Lot, InN n j ∧ j ≠ [] ∧ ds = [eTree (n + 1) (putInL n a l), eTree (n + 1) (putInL n b j)]) ∧ ρ' = ρ0) (ax_cons (ex_d (ed_var r7)) (by rintro d ρ' ⟨rfl, _⟩; exact nl_Tree _ _) ?_) ?_) (by rintro d ρ' ⟨⟨j, _, _, rfl⟩, _⟩; rfl) ?_)) (by rintro ρ' ⟨h, _⟩; cases h) ?_
  · rintro d ρ' ⟨rfl, hr⟩
    rw [hr]
    refine ax_cons (Pa := fun d ρ' => (∃ j : Lot, InN n j ∧ j ≠ [] ∧ d = eTree (n + 1) (putInL n b j)) ∧ ρ' = ρ0) (ex_pure (Pa := fun ds ρ' => (∃ j : Lot, InN n j ∧ j ≠ [] ∧ ds = [eTree n b, eLot j]) ∧ ρ' = ρ0) (ax_cons (ex_d (ed_var r2)) (by rintro d ρ' ⟨rfl, _⟩; exact nl_Tree _ _) ?_) ?_) (by rintro d ρ' ⟨⟨j, _, _, rfl⟩, _⟩; exact nl_Tree _ _) ?_
    · rintro d ρ' ⟨rfl, hr⟩
      rw [hr]
      refine ax_cons (Pa := fun d ρ' => (∃ j : Lot, InN n j ∧ j ≠ [] ∧ d = eLot j) ∧ ρ' = ρ0) (ex_w (ex_pickN (es := [eLot l, eLot k]) zs fn r0 (el_lst (ea_cons (ed_var r5) (ea_cons (ed_var r6) ea_nil)) (by simp)) (by simp [noLs, nl_Lot]) (by simp) (by simp)) ?_) (by rintro d ρ' ⟨⟨j, _, _, rfl⟩, _⟩; exact nl_Lot _) ?_
      · rintro d ρ' ⟨⟨x, hx⟩, rfl⟩
        match x, hx with
        | 0, hx => exact ⟨⟨l, i1, i2, (Option.some.inj hx).symm⟩, rfl⟩
        | 1, hx => exact ⟨⟨k, i3, i4, (Option.some.inj hx).symm⟩, rfl⟩
        | x + 2, hx => simp at hx
      · rintro d ρ' ⟨⟨j, j1, j2, rfl⟩, rfl⟩
        exact ax_nil ⟨⟨j, j1, j2, rfl⟩, rfl⟩
    · rintro ds ρ' ⟨⟨j, j1, j2, rfl⟩, rfl⟩
      exact ⟨_, put_R tb h4 j1, ⟨j, j1, j2, rfl⟩, rfl⟩
    · rintro d ρ' ⟨⟨j, j1, j2, rfl⟩, rfl⟩
      exact ax_nil ⟨⟨j, j1, j2, rfl⟩, rfl⟩
  · rintro ds ρ' ⟨⟨j, j1, j2, rfl⟩, rfl⟩
    exact ⟨_, dist_ok tl (more_tree tb h0 h4 j1 j2) (by omega) (by omega), ⟨j, j1, j2, rfl⟩, rfl⟩
  · rintro d ρ' ⟨⟨j, j1, j2, rfl⟩, rfl⟩
    refine ex_dw (d := .tuple [.int (farN n a b : Nat), .int ((farN n a b : Nat) + 1)]) (ed_tup (ea_cons (ed_var r3) (ea_cons (ed_op (ed_var r3) ed_int rd_add) ea_nil)) (by simp)) ⟨_, rd_niT (sh_I _) (sh_I2 _ _), _, rfl, ?_, rfl⟩
    have fm := far_more ta tb h0 h4 i1 i2 j1 j2
    rw [Bool.not_eq_false']
    refine (any_2 _ _ _).trans ?_
    rw [Bool.or_eq_true, decide_eq_true_eq, decide_eq_true_eq]
    omega
  rintro ρ' ⟨_, rfl⟩
  refine q_next ?_
  refine q_ret (d := .bool true) (ed_is (ed_eqStr (ed_reprI (ed_dist tl tk (by omega) (by omega) (ed_var r7) (ed_var r8)) (far_lt (by omega) _ _)) (ed_reprO (x := farN (n + 1) (putInL n a l) (putInL n a k)) (et_test (ed_eqTree tl tk (by omega) (ed_var r7) (ed_var r8))) (by rw [far_more_self ta h0 h4 i1 i2 i3 i4]; simp))) (by simp)) fin
end
end Fk
/-! the walks, 23: by cut, by names -/
namespace Fk
open PySem PySem.Spec PyProof.Rows L2
section
variable {P : Program} {w : World} {K : PySem.W.Frag} {mg : Str → Option Value} {base : Heap}
theorem atI_1 {α : Type} {x y : α} {l : List α} : atI (x :: y :: l) 1 = some y := by
  unfold atI
  rw [show (1 : Int) = ((1 : Nat) : Int) from rfl, Evl.ixN_nat (by simp)]
  rfl
theorem line_of {n : Nat} {es : List PyData} (h : R__law_line [eI n] es) : ∃ l : Lot, l.Perm (List.range n) ∧ es = l.map eI := by
  obtain ⟨m, l, he, _, h1, rfl⟩ := h
  obtain rfl := eI_inj (List.cons.inj he).1
  exact ⟨l, h1, rfl⟩
def R__law_by_cut (ds : List PyData) (d : PyData) : Prop := ∃ n : Nat, ds = [eI n] ∧ 0 < n ∧ n ≤ 5 ∧ d = .bool true
abbrev sp__law_by_cut (K : PySem.W.Frag) : Sp := spZ K R__law_by_cut
theorem len__law_by_cut : ∀ ds es, R__law_by_cut ds es → ds.length + 1 = 2 := by rintro ds d ⟨n, rfl, _⟩; rfl
theorem nl__law_by_cut : ∀ ds es, R__law_by_cut ds es → noLs ds = true := by rintro ds d ⟨n, rfl, _⟩; rfl
-- slots: _law_store_here:0 _law_size:1 _law_fresh:2 _law_own:3 _law_line_here:4  level 10
abbrev N__law_by_cut : List Str := ["_law_store_here", "_law_size", "_law_fresh", "_law_own", "_law_line_here"]
theorem sc__law_by_cut : FnScope N__law_by_cut ["_law_store_here", "_law_size"] (defScope s__law_by_cut) := ⟨rfl, rfl, rfl, by decide +kernel, rfl, by decide +kernel, by decide +kernel⟩
theorem bd__law_by_cut : BindsBy "_law_by_cut" s__law_by_cut ["_law_store_here", "_law_size"] := fun _ _ _ _ _ _ us hl => match us, hl with | [_, _], _ => rfl
theorem ok__law_by_cut (F : Here K mg "_law_by_cut" s__law_by_cut) (bs : Bs mg) (h__law_line : Ok P w K mg base 2 "_law_line" ["_law_store_here", "_law_size"] (sp__law_line K)) (h__law_tree : Ok P w K mg base 4 "_law_tree" ["_law_store_here", "_law_size", "_law_wide"] (sp__law_tree K)) (h_cut_and_put : Ok P w K mg base 7 "cut_and_put" ["tree", "lot", "place"] (sp_cut_and_put K)) (h_distance : Ok P w K mg base 9 "distance" ["tree", "other"] (sp_distance K)) : Ok P w K mg base 10 "_law_by_cut" ["_law_store_here", "_law_size"] (sp__law_by_cut K) := by
  have nd := sc__law_by_cut.nd
  refine mkG F sc__law_by_cut bd__law_by_cut (lenZ len__law_by_cut) fun f cdv A outer s H E hg hr => ⟨_, (pss_cons (ps_if (pt_cmpR op_lt (pv 1) pe_int (nomark _)) (pss_cons (ps_ret pe_bl)
    pss_nil) pss_nil)
    (pss_cons (ps_par (i := 3) (j := 4) rfl nd rfl rfl (by decide) rfl rfl (pa_cons (pe_callN h__law_tree hg (hr.mono (by decide)) rfl (pa_cons (pv 0) (pa_cons (pv 1) (pa_cons pe_int pa_nil)))) (pa_cons (pe_callN h__law_line hg (hr.mono (by decide)) rfl (pa_cons (pv 0) (pa_cons (pv 1) pa_nil))) pa_nil)) rfl)
    (pss_cons (ps_set (i := 2) nd rfl (Or.inl rfl) (pe_callN h_cut_and_put hg (hr.mono (by decide)) rfl (pa_cons (pv 3) (pa_cons (pe_tup (pa_cons (pe_ix (ix_lk K rfl) (pv 4) pe_int (fun _ _ => rfl)) pa_nil)) (pa_cons (pe_tup (pa_cons (pe_ix (ix_lk K rfl) (pv 4) pe_int (fun _ _ => rfl)) pa_nil)) pa_nil)))))
    (pss_cons (ps_ret (pe_cmpR op_eq (pe_callB (cr_reprk K rfl hg hr) rfl bs.repr (by decide +kernel) (pa_cons (pe_callN h_distance hg hr rfl (pa_cons (pv 3) (pa_cons (pv 2) pa_nil))) pa_nil)) (pe_callB (cr_reprk K rfl hg hr) rfl bs.repr (by decide +kernel) (pa_cons (pe_ifExp (pt_cmpR (op_eqk K rfl hr.units) (pv 2) (pv 3) (nomark _)) pe_int pe_int) pa_nil)) (nomark _)))
    pss_nil)))), runZ nl__law_by_cut fun B st lf ln ds hR zs D hD => ?_⟩
  obtain ⟨d0, n, rfl, h0, h5, _⟩ := hR
  show TrR K B _ _ _ [.r st, .d (eI n), .un, .un, .un] _
  have n9 : n ≤ 9 := by omega
  have fin : ∀ v H', Ex B H' → StZ st lf ln H' → Dp K H' v (.bool true) → D.rt v H' := fun v H' e z h => hD _ v H' ⟨n, rfl, h0, h5, rfl⟩ e z h
  refine q_if (b := decide (n < 3)) (et_test (ed_ltN (b := 3) (ed_var rfl) ed_int)) (fun _ => q_ret (d := .bool true) ed_bl fin) (fun hn => q_next ?_)
  have h3 : 3 ≤ n := by have := of_decide_eq_false hn; omega
  refine q_parXL (Pa := fun d ρ' => (∃ ns, Tree n ns ∧ ns.length + 1 = n ∧ d = eTree n ns) ∧ ρ' = [.r st, .d (eI n), .un, .un, .un]) (Po := fun _ es => ∃ l : Lot, l.Perm (List.range n) ∧ es = l.map eI) (ex_w (ex_call (R := R__law_tree) (ds := [eI n, eI 2]) zs ⟨by simp [adrs], by simp [noT]⟩ rfl (ea_cons (ed_var rfl) (ea_cons ed_int ea_nil)) ?_) ?_) ?_ fun d es hd he => ?_
  · obtain ⟨ns, t, hw⟩ := tree_wit 2 h0
    exact ⟨_, n, 2, ns, rfl, h0, n9, by decide, t, hw, rfl⟩
  · rintro d ρ' ⟨hd, rfl⟩
    obtain ⟨ns, t, hw, rfl⟩ := tree_of hd
    exact ⟨⟨ns, t, hw rfl, rfl⟩, rfl⟩
  · rintro d ρ' ⟨⟨ns, t, _, rfl⟩, rfl⟩
    refine ⟨nl_Tree _ _, rfl, fun σ H a Q q => exl_call (R := R__law_line) (ds := [eI n]) zs ⟨by simp [adrs], by simp [noT]⟩ rfl (ea_cons (ed_var rfl) ea_nil) ⟨_, n, List.range n, rfl, n9, .refl _, rfl⟩ σ H a Q fun p vs H2 es pe => q p vs H2 es (line_of pe)⟩
  obtain ⟨⟨ns, t, fk, rfl⟩, _⟩ := hd
  obtain ⟨l, hl, rfl⟩ := he
  refine ⟨nls_I _, fun p np => ?_⟩
  have hll : l.length = n := by rw [hl.length_eq, List.length_range]
  have hnd : l.Nodup := hl.nodup_iff.mpr List.nodup_range
  match l, hll, hl, hnd with
  | [], h, _, _ => simp at h; omega
  | [x], h, _, _ => simp at h; omega
  | x :: y :: r, _, hl, hnd =>
    have hx : x < n := List.mem_range.mp (hl.subset (by simp))
    have hy : y < n := List.mem_range.mp (hl.subset (by simp))
    have ne : x ≠ y := by rintro rfl; simp at hnd
    show TrR K B _ _ _ [.r st, .d (eI n), .un, .d (eTree n ns), .l p ((x :: y :: r).map eI)] _
    refine q_asg (d := eTree n (cutPutL ns x y)) (ed_call (ea_cons (ed_var rfl) (ea_cons (d := eLot [x]) (ed_tup (ea_cons (ed_op (ed_varL rfl) ed_int (rd_ixL (i := 0) atI_0)) ea_nil) (by simp)) (ea_cons (d := eLot [y]) (ed_tup (ea_cons (ed_op (ed_varL rfl) ed_int (rd_ixL (i := 1) atI_1)) ea_nil) (by simp)) ea_nil))) ⟨n, ns, x, y, rfl, by omega, by omega, by omega, ne, t.l10 n9, by omega, fun l hl => by have := t.ll hl; omega, fun m hm => ⟨?_, (chk_cut t h3 h5 fk).1 m hm⟩, rfl⟩) (nl_Tree _ _) ?_
    · exact ((chk t h0 h5).2.2 m (ordL_mem.mpr (List.mem_append_left _ hm))).1 (by have := (t.mem m hm).2.2; omega) |>.2
    have tc := cut_tree t h3 h5 fk hx hy ne
    exact q_ret (d := .bool true) (ed_is (ed_eqStr (ed_reprI (ed_dist t tc h0 h5 (ed_var rfl) (ed_var rfl)) (far_lt n9 _ _)) (ed_reprO (x := farN n ns (cutPutL ns x y)) (et_test (ed_eqTree tc t n9 (ed_var rfl) (ed_var rfl))) (by rw [far_cut t h3 h5 fk hx hy ne]; simp))) (by simp)) fin
def R__law_by_names (ds : List PyData) (d : PyData) : Prop := ∃ (n : Nat) (a b : List Lot), ds = [eTree n a, eTree n b, eI (farN n a b)] ∧ 0 < n ∧ n ≤ 5 ∧ Tree n a ∧ Tree n b ∧ d = .bool true
abbrev sp__law_by_names (K : PySem.W.Frag) : Sp := spZ K R__law_by_names
theorem len__law_by_names : ∀ ds es, R__law_by_names ds es → ds.length + 1 = 4 := by rintro ds d ⟨n, a, b, rfl, _⟩; rfl
theorem nl__law_by_names : ∀ ds es, R__law_by_names ds es → noLs ds = true := by rintro ds d ⟨n, a, b, rfl, _⟩; simp [noLs, noL, nl_Tree]; rfl
-- slots: _law_store_here:0 _law_one:1 _law_two:2 _law_far_here:3 _law_line_here:4 _law_first:5 _law_second:6  level 10
abbrev N__law_by_names : List Str := ["_law_store_here", "_law_one", "_law_two", "_law_far_here", "_law_line_here", "_law_first", "_law_second"]
theorem sc__law_by_names : FnScope N__law_by_names ["_law_store_here", "_law_one", "_law_two", "_law_far_here"] (defScope s__law_by_names) := ⟨rfl, rfl, rfl, by decide +kernel, rfl, by decide +kernel, by decide +kernel⟩
theorem bd__law_by_names : BindsBy "_law_by_names" s__law_by_names ["_law_store_here", "_law_one", "_law_two", "_law_far_here"] := fun _ _ _ _ _ _ us hl => match us, hl with | [_, _, _, _], _ => rfl
theorem ok__law_by_names (F : Here K mg "_law_by_names" s__law_by_names) (bs : Bs mg) (h__law_line : Ok P w K mg base 2 "_law_line" ["_law_store_here", "_law_size"] (sp__law_line K)) (h__law_named : Ok P w K mg base 4 "_law_named" ["_law_own", "_law_line_here"] (sp__law_named K)) (h_distance : Ok P w K mg base 9 "distance" ["tree", "other"] (sp_distance K)) (h_renamed : Ok P w K mg base 5 "renamed" ["tree", "naming"] (sp_renamed K)) : Ok P w K mg base 10 "_law_by_names" ["_law_store_here", "_law_one", "_law_two", "_law_far_here"] (sp__law_by_names K) := by
  have nd := sc__law_by_names.nd
  refine mkG F sc__law_by_names bd__law_by_names (lenZ len__law_by_names) fun f cdv A outer s H E hg hr => ⟨_, (pss_cons (ps_set (i := 4) nd rfl (Or.inl rfl) (pe_callTy (cr_tupk K rfl) rfl bs.tuple boot_tuple (pa_cons (pe_callN h__law_line hg (hr.mono (by decide)) rfl (pa_cons (pv 0) (pa_cons (pe_ix (ix_tk K rfl) (pv 1) pe_int (fun _ _ => rfl)) pa_nil))) pa_nil)))
    (pss_cons (ps_par (i := 5) (j := 6) rfl nd rfl rfl (by decide) rfl rfl (pa_cons (pe_callN h_renamed hg (hr.mono (by decide)) rfl (pa_cons (pv 1) (pa_cons (pv 4) pa_nil))) (pa_cons (pe_callN h_renamed hg (hr.mono (by decide)) rfl (pa_cons (pv 2) (pa_cons (pv 4) pa_nil))) pa_nil)) rfl)
    (pss_cons (ps_if (pt_cmpR op_ne (pe_callB (cr_reprk K rfl hg hr) rfl bs.repr (by decide +kernel) (pa_cons (pe_lst (pa_cons (pv 5) (pa_cons (pv 6) pa_nil))) pa_nil)) (pe_callB (cr_reprk K rfl hg hr) rfl bs.repr (by decide +kernel) (pa_cons (pe_lst (pa_cons (pe_callN h__law_named hg (hr.mono (by decide)) rfl (pa_cons (pv 1) (pa_cons (pv 4) pa_nil))) (pa_cons (pe_callN h__law_named hg (hr.mono (by decide)) rfl (pa_cons (pv 2) (pa_cons (pv 4) pa_nil))) pa_nil))) pa_nil)) (nomark _)) (pss_cons (ps_ret pe_bl)
    pss_nil) pss_nil)
    (pss_cons (ps_ret (pe_cmpR op_eq (pe_callB (cr_reprk K rfl hg hr) rfl bs.repr (by decide +kernel) (pa_cons (pe_callN h_distance hg hr rfl (pa_cons (pv 6) (pa_cons (pv 5) pa_nil))) pa_nil)) (pe_callB (cr_reprk K rfl hg hr) rfl bs.repr (by decide +kernel) (pa_cons (pv 3) pa_nil)) (nomark _)))
    pss_nil)))), runZ nl__law_by_names fun B st lf ln ds hR zs D hD => ?_⟩
  obtain ⟨d0, n, a, b, rfl, h0, h5, ta, tb, _⟩ := hR
  show TrR K B _ _ _ [.r st, .d (eTree n a), .d (eTree n b), .d (eI (farN n a b)), .un, .un, .un] _
  have n9 : n ≤ 9 := by omega
  have fin : ∀ v H', Ex B H' → StZ st lf ln H' → Dp K H' v (.bool true) → D.rt v H' := fun v H' e z h => hD _ v H' ⟨n, a, b, rfl, h0, h5, ta, tb, rfl⟩ e z h
  refine q_asgX (Po := fun d ρ' => (∃ es, R__law_line [eI n] es ∧ d = .tuple es) ∧ ρ' = [.r st, .d (eTree n a), .d (eTree n b), .d (eI (farN n a b)), .un, .un, .un]) (ex_tupL (exl_call (R := R__law_line) (ds := [eI n]) zs ⟨by simp [adrs], by simp [noT]⟩ rfl (ea_cons (ed_size (ed_var rfl)) ea_nil) ⟨_, n, List.range n, rfl, n9, .refl _, rfl⟩)) fun d ρ' hp => ?_
  obtain ⟨⟨es, hes, rfl⟩, rfl⟩ := hp
  obtain ⟨l, hl, rfl⟩ := line_of hes
  refine ⟨nl_Lot l, ?_⟩
  show TrR K B _ _ _ [.r st, .d (eTree n a), .d (eTree n b), .d (eI (farN n a b)), .d (eLot l), .un, .un] _
  have pm : Perm n l := ⟨hl⟩
  have hll := pm.len
  have na := ta.named pm
  have nb := tb.named pm
  have rn : ∀ {ρ : List Sl} {i : Nat} {x : List Lot} {E : XK}, Tree n x → ρ[i]? = some (.d (eTree n x)) → ρ[4]? = some (.d (eLot l)) → EvD K B (tCall (spD K R_renamed) [] E (tCons (tVar i) (tCons (tVar 4) tNil))) ρ (eTree n (namedL x l)) := fun t h h4 =>
    ed_is (ed_call (ea_cons (ed_var h) (ea_cons (ed_var h4) ea_nil)) ⟨n, _, l, rfl, by omega, hll, strict_ext (sortN_lt pm.nd) (range_strict n) fun x => by rw [sortN_mem, pm.p.mem_iff], fun m hm x hx => (t.mem m hm).2.1 x hx, fun m hm => by have := t.ll hm; omega, by have := t.len n9; omega, rfl⟩) (by rw [named_ord t pm])
  have nm : ∀ {ρ : List Sl} {i : Nat} {x : List Lot} {E : XK}, Tree n x → ρ[i]? = some (.d (eTree n x)) → ρ[4]? = some (.d (eLot l)) → EvD K B (tCall (spD K R__law_named) [] E (tCons (tVar i) (tCons (tVar 4) tNil))) ρ (eTree n (namedL x l)) := fun t h h4 =>
    ed_call (ea_cons (ed_var h) (ea_cons (ed_var h4) ea_nil)) ⟨n, _, l, _, rfl, .inl rfl, fun m hm x hx => by rw [hll]; exact (t.mem m hm).2.1 x hx, fun m hm => by have := t.ll hm; omega, by have := t.len n9; omega, rfl⟩
  refine q_parDD (ea_cons (rn ta rfl rfl) (ea_cons (rn tb rfl rfl) ea_nil)) (nl_Tree _ _) (nl_Tree _ _) ?_
  show TrR K B _ _ _ [.r st, .d (eTree n a), .d (eTree n b), .d (eI (farN n a b)), .d (eLot l), .d (eTree n (namedL a l)), .d (eTree n (namedL b l))] _
  have ok2 : okD (.list ([namedL a l, namedL b l].map (eTree n))) = true := (okw_trees n9 (by
    intro m hm
    simp only [List.mem_cons, List.not_mem_nil, or_false] at hm
    rcases hm with rfl | rfl
    · exact na
    · exact nb) (by simp)).ok (by decide) (by decide)
  refine q_if (b := false) (et_is (et_test (ed_neStr (ed_reprL (ds := [namedL a l, namedL b l].map (eTree n)) (ed_L (el_lst (ea_cons (ed_var rfl) (ea_cons (ed_var rfl) ea_nil)) (by simp))) ok2) (ed_reprL (ds := [namedL a l, namedL b l].map (eTree n)) (ed_L (el_lst (ea_cons (nm ta rfl rfl) (ea_cons (nm tb rfl rfl) ea_nil)) (by simp))) ok2))) (by simp)) (fun h => nomatch h) (fun _ => q_next ?_)
  exact q_ret (d := .bool true) (ed_is (ed_eqStr (ed_reprI (n := farN n a b) (ed_is (ed_dist nb na h0 h5 (ed_var rfl) (ed_var rfl)) (by rw [far_named tb ta pm, far_comm])) (far_lt n9 _ _)) (ed_reprI (n := farN n a b) (ed_var rfl) (far_lt n9 _ _))) (by simp)) fin
end
end Fk
/-! the walks, 24: rules for the law itself -/
namespace Fk
open PySem PySem.Spec PyProof.Rows L2
section
variable {K : PySem.W.Frag} {B B' H H' : Hp} {S : Addr → Prop} {Z : Hp → Prop} {ρ : List Sl} {σ : L2.St} {te tf tl : TE} {tz : TS} {D : Ends} {st lf ln : Addr}
theorem slotB (e : Ex B B') {o : Option V} {s : Sl} (h : SlotOk K B H o s) : SlotOk K B' H o s := by
  cases s with
  | d d =>
    obtain ⟨v, e1, h1⟩ := h
    exact ⟨v, e1, h1.imp (dp_ex e _ _) id⟩
  | un => trivial
  | l p ds => exact h
  | o p u => exact h
  | r p => exact h
  | t d => exact h
  | k p P w es => exact h
theorem envB (e : Ex B B') : ∀ {σ : L2.St} {ρ : List Sl}, EnvOk K B H σ ρ → EnvOk K B' H σ ρ
  | [], [], _ => trivial
  | _ :: _, _ :: _, h => ⟨slotB e h.1, envB e h.2⟩
  | [], _ :: _, h => h.elim
  | _ :: _, [], h => h.elim
/-- for over range(n), by any word on what stands -/
theorem q_forRW {n j : Nat} {ta : TA} {tb : TS} (h : EvA K B ta ρ [.int (n : Int)]) (hn : n ≤ 100000) (W : Nat → L2.St → Hp → Prop) (h0 : ∀ σ H, EnvOk K B H σ ρ → Ex B H → Z H → W 0 σ H) (zx : ∀ {H H'}, Z H → Ex H H' → Z H')
    (hb : ∀ i σ H, i < n → W i σ H → tb { nx := W (i + 1), rt := D.rt, bk := tz D, ct := W (i + 1) } (σ.set j (some (.int (i : Int)))) H)
    (k : ∀ σ H, W n σ H → tz D σ H) : TrR K B S Z (tSeq (tFor (iRng1 ta) (gName j) tb) tz) ρ D := fun σ H a =>
  h σ H a.eb a.ok _ fun vs H1 e h1 => by
    have hvs : vs = [.int (n : Int)] := by
      obtain ⟨v, rfl, hv⟩ := one_dp h1
      rw [dp_int hv]
    refine ⟨(n : Int), hvs, by omega, by omega, ?_⟩
    have htn : ((n : Int)).toNat = n := Int.toNat_natCast n
    rw [htn]
    refine for_range (lo := 0) (n := n) (fun i σ H => W i σ H) (h0 _ _ (a.ok.ex e) (a.eb.tr e) (zx a.z e)) (fun i σ H hi p => ?_) fun σ H p => k _ _ p
    have e0 : (0 : Int) + (i : Int) = (i : Int) := Int.zero_add _
    rw [e0]
    exact hb i σ H hi p
/-- for over a new list of anything, where nothing stands to be changed any more -/
theorem q_forF {xs : List PyData} {g : TG} {tb : TS} (h : EvL K B tl ρ xs) (P : List Sl → Prop) (h0 : P ρ)
    (hb : ∀ B', Ex B B' → ∀ d ∈ xs, ∀ ρ', P ρ' → ∃ ρ2, GT K B' S0 Z0 g ρ' d ρ2 ∧ TrR K B' S0 Z0 tb ρ2 (inLoop K B' S0 Z0 P D tz))
    (k : ∀ B', Ex B B' → ∀ ρ', P ρ' → TrR K B' S0 Z0 tz ρ' D) : TrR K B S0 Z0 (tSeq (tFor (iList K tl) g tb) tz) ρ D := fun σ H a =>
  h σ H a.eb a.ok _ fun p vs H1 e hp h1 h2 => by
    have eB : Ex B H1 := a.eb.tr e
    refine ⟨p, rfl, ⟨vs, SqL.of h1⟩, for_list (K := K) (a := p) (xs := vs) (D := { nx := tz D, rt := D.rt, bk := tz D, ct := D.ct }) (fun _ σ H => lf K H1 S0 Z0 P σ H) ⟨ρ, h0, Ex.rf, trivial, envB eB (a.ok.ex e)⟩ (fun i σ H _ q => ?_) (fun i y σ H hy q => ?_) fun σ H q => ?_⟩
    · obtain ⟨ρ', _, a'⟩ := q
      exact Evl.ex_l a'.eb (SqL.of h1)
    · obtain ⟨ρ', q, a'⟩ := q
      obtain ⟨d, hd, hyd⟩ := dps_get h2 hy
      obtain ⟨ρ2, hg, hk⟩ := hb H1 eB d (List.mem_of_getElem? hd) ρ' q
      exact hg _ _ y a' (dp_ex a'.eb _ _ hyd) _ fun σ2 a2 => hk _ _ a2
    · obtain ⟨ρ', q, a'⟩ := q
      exact k H1 eB ρ' q _ _ a'
theorem put_o {u : HO} {s' : Sl} {p : Addr} : putL p s' (.o p u) = s' := if_pos rfl
theorem new_noS {p : Addr} (z : StZ st lf ln H) (h : H p = none) : ¬ StS st lf ln p := fun hs => by
  obtain ⟨o, h1, _⟩ := z.at hs
  rw [h] at h1; cases h1
theorem tCons_i {tr : TA} {Q : List V → Hp → Prop} (h : te σ H fun v H1 => tr σ H1 fun vs H2 => Q (v :: vs) H2) : tCons te tr σ H Q := h
theorem tOp_i {r : R2} {Q : VK} (h : te σ H fun v H1 => tf σ H1 fun u H2 => r v u H2 Q) : tOp r te tf σ H Q := h
theorem tLst_i {ta : TA} {Q : VK} (h : ta σ H fun xs H1 => xs.length ≤ sizeLine ∧ ∀ p, H1 p = none → Q (.ref p) (L2.upd H1 p (.lst xs))) : tLst ta σ H Q := h
/-- one of three rows, the last one's last item drawn -/
theorem ex_rows {E E2 : XK} {i : Nat} {Po : PyData → List Sl → Prop} [zk : ZK S Z] (zs : ZS st lf ln S Z B) (f : Fine S ρ) (hs : ρ[2]? = some (.r st)) (ht : ρ[1]? = some (.d (eI i))) (hi : i < 3)
    (hp : ∀ n, 0 < n → n ≤ 5 → (0 < i → n ≤ 4) → Po (eI n) ρ) :
    EvX K B S Z (tCall (spPk K) [] E (tCons (tVar 2) (tCons (tOp (rIxL K) (tLst (tCons (tLst (tCons (tC (.int 5)) (tCons (tC (.int 5)) (tCons (tC (.int 4)) tNil)))) (tCons (tLst (tCons (tC (.int 4)) (tCons (tC (.int 3)) (tCons (tC (.int 4)) (tCons (tC (.int 2)) (tCons (tC (.int 1)) tNil)))))) (tCons (tLst (tCons (tC (.int 4)) (tCons (tC (.int 3)) (tCons (tC (.int 4)) (tCons (tOp (rI0 fun i j => .int (i + j)) (tC (.int 1)) (tCall (spZ K R__law_draw) [] E2 (tCons (tVar 2) (tCons (tC (.int 4)) tNil)))) tNil))))) tNil)))) (tVar 1)) tNil))) ρ Po := fun σ H a Q q => by
  refine ⟨_, a.ok.r hs, ?_⟩
  refine tCons_i (tOp_i (tLst_i (tCons_i ?_)))
  refine el_lst (K := K) (B := B) (ρ := ρ) (ds := [eI 5, eI 5, eI 4]) (ea_cons ed_int (ea_cons ed_int (ea_cons ed_int ea_nil))) (by simp) σ H a.eb a.ok _ fun p1 w1 H1 e1 hp1 h1 d1 => ?_
  have a1 := a.ex e1
  refine tCons_i ?_
  refine el_lst (K := K) (B := B) (ρ := ρ) (ds := [eI 4, eI 3, eI 4, eI 2, eI 1]) (ea_cons ed_int (ea_cons ed_int (ea_cons ed_int (ea_cons ed_int (ea_cons ed_int ea_nil))))) (by simp) σ H1 a1.eb a1.ok _ fun p2 w2 H2 e2 hp2 h2 d2 => ?_
  have a2 := a1.ex e2
  have z2 := zs.get a2.z
  refine ⟨_, a.ok.r hs, ?_⟩
  refine ⟨st, lf, ln, [.int 4], [eI 4], rfl, z2, .cons (.int _) .nil, ⟨eI 0, 4, 0, rfl, by decide, by decide, by decide, rfl⟩, fun d hd v H3 k z3 hv => ?_⟩
  obtain ⟨r, hr, rfl⟩ := draw_of hd
  obtain rfl := dp_int hv
  have a3 := a2.kp zs f k z3
  refine ⟨1, (r : Int), rfl, rfl, sz_of (by simp), fun p3 hp3 => sz_of (by simp) |> fun sz => ⟨sz, fun p4 hp4 => ?_⟩⟩
  have x3 : Ex H3 (L2.upd H3 p3 (.lst [.int 4, .int 3, .int 4, .int (1 + (r : Int))])) := Evl.Ex.new hp3
  have e5 : Ex H3 (L2.upd (L2.upd H3 p3 (.lst [.int 4, .int 3, .int 4, .int (1 + (r : Int))])) p4 (.lst [.ref p1, .ref p2, .ref p3])) := x3.tr (Evl.Ex.new hp4)
  have hp3' : (L2.upd (L2.upd H3 p3 (.lst [.int 4, .int 3, .int 4, .int (1 + (r : Int))])) p4 (.lst [.ref p1, .ref p2, .ref p3])) p3 = some (.lst [.int 4, .int 3, .int 4, .int (1 + (r : Int))]) := Evl.Ex.new hp4 _ _ upd_same
  have hp4' : (L2.upd (L2.upd H3 p3 (.lst [.int 4, .int 3, .int 4, .int (1 + (r : Int))])) p4 (.lst [.ref p1, .ref p2, .ref p3])) p4 = some (.lst [.ref p1, .ref p2, .ref p3]) := upd_same
  generalize (L2.upd (L2.upd H3 p3 (.lst [.int 4, .int 3, .int 4, .int (1 + (r : Int))])) p4 (.lst [.ref p1, .ref p2, .ref p3])) = H5 at e5 hp3' hp4' ⊢
  have a5 := a3.ex e5
  have z5 := zs.get a5.z
  have s1 : ¬ StS st lf ln p1 := new_noS (zs.get a.z) hp1
  have s2 : ¬ StS st lf ln p2 := new_noS (zs.get a1.z) hp2
  have s3 : ¬ StS st lf ln p3 := new_noS z3 hp3
  have g1 : H5 p1 = some (.lst w1) := e5 _ _ (k _ _ (e2 _ _ h1) s1)
  have g2 : H5 p2 = some (.lst w2) := e5 _ _ (k _ _ h2 s2)
  have t25 : TX H2 H5 := (k.tx z2).trans (TX.of e5)
  have t15 : TX H1 H5 := (TX.of e2).trans t25
  have t05 : TX H H5 := (TX.of e1).trans t15
  obtain ⟨vi, ei, hvi⟩ := a.ok.d a.eb ht
  obtain rfl := dp_int hvi
  refine ⟨_, ei, ?_⟩
  have fin : ∀ (p : Addr) (ws : List V) (ns : List Nat), H5 p = some (.lst ws) → ¬ StS st lf ln p → DpAll K H5 ws (ns.map eI) → ns ≠ [] → ns.length < 1000 → (∀ n ∈ ns, 0 < n ∧ n ≤ 5 ∧ (0 < i → n ≤ 4)) → spPk K [.ref st, .ref p] H5 Q E := fun p ws ns g s dd ne hl hn =>
    ⟨st, lf, ln, p, ws, ns.map eI, rfl, z5, g, s, dd, nls_I ns, by simpa using ne, by simpa using hl, fun j d hj v H' kp z hv => by
      rw [List.getElem?_map] at hj
      cases hx : ns[j]? with
      | none => rw [hx] at hj; cases hj
      | some n =>
        rw [hx] at hj; cases hj
        obtain ⟨n1, n2, n3⟩ := hn n (List.mem_of_getElem? hx)
        exact q v H' _ ρ (hp n n1 n2 n3) (t05.trans (kp.tx z5)) (a5.kp zs f kp z) hv⟩
  match i, hi with
  | 0, _ =>
    refine ⟨p4, _, 0, .ref p1, rfl, rfl, SqL.of hp4', rfl, fin p1 w1 [5, 5, 4] g1 s1 (dps_tx t15 _ _ rfl d1) (by simp) (by simp) (by simp)⟩
  | 1, _ =>
    refine ⟨p4, _, 1, .ref p2, rfl, rfl, SqL.of hp4', rfl, fin p2 w2 [4, 3, 4, 2, 1] g2 s2 (dps_tx t25 _ _ rfl d2) (by simp) (by simp) (by simp)⟩
  | 2, _ =>
    refine ⟨p4, _, 2, .ref p3, rfl, rfl, SqL.of hp4', rfl, fin p3 _ [4, 3, 4, 1 + r] hp3' s3 (.cons (.int _) (.cons (.int _) (.cons (.int _) (.cons (.int _) .nil)))) (by simp) (by simp) (by simp; omega)⟩
end
/-! what the law keeps of a turn -/
abbrev Ent := Nat × List Lot × List Lot
def entD (e : Ent) : PyData := .list [eTree e.1 e.2.2, eTree e.1 e.2.1, .str (PyData.shown (eI (farN e.1 e.2.1 e.2.2)))]
def EntOk (e : Ent) : Prop := 0 < e.1 ∧ e.1 ≤ 5 ∧ Tree e.1 e.2.1 ∧ Tree e.1 e.2.2
def KnW (K : PySem.W.Frag) (B : Hp) (st lf ln kn : Addr) (i : Nat) (σ : L2.St) (H : Hp) : Prop := ∃ (B' : Hp) (es : List Ent) (refs : List V) (s1 s4 s5 s6 s10 s11 s12 : Sl), Ex B B' ∧ B' kn = none ∧ (∀ a, StS st lf ln a → B' a = none) ∧ ¬ StS st lf ln kn ∧ DpAll K B' refs (es.map entD) ∧ es.length = i ∧ (∀ e ∈ es, EntOk e) ∧ (Pl s1 ∧ Pl s4 ∧ Pl s5 ∧ Pl s6 ∧ Pl s10 ∧ Pl s11 ∧ Pl s12) ∧
  At K B' (StS st lf ln) (StZ st lf ln) [.un, s1, .r st, .o kn (.lst refs), s4, s5, s6, .un, .un, .un, s10, s11, s12] σ H
theorem world_of {n : Nat} {d : PyData} (h : R__law_world [eI n, eI 3] d) : ∃ a b c, Tree n a ∧ Tree n b ∧ Tree n c ∧ d = .tuple [eTree n a, eTree n b, eTree n c] := by
  obtain ⟨m, a, b, c, he, _, _, t1, t2, t3, rfl⟩ := h
  obtain rfl := eI_inj (List.cons.inj he).1
  exact ⟨a, b, c, t1, t2, t3, rfl⟩
section
variable {K : PySem.W.Frag} {B B' H H' : Hp} {σ : L2.St} {st lf ln kn : Addr}
/-- known.append([two, one, repr(far)]) -/
theorem know {s1 s4 s11 : Sl} {refs : List V} {es : List Ent} {n : Nat} {a b : List Lot} {s10 : Sl} (eB : Ex B B') (hk : B' kn = none) (hs : ∀ a, StS st lf ln a → B' a = none) (hks : ¬ StS st lf ln kn) (hr : DpAll K B' refs (es.map entD)) (he : ∀ e ∈ es, EntOk e) (hl : es.length < 100)
    (p1 : Pl s1) (p4 : Pl s4) (p10 : Pl s10) (p11 : Pl s11) (h0 : 0 < n) (h5 : n ≤ 5) (ta : Tree n a) (tb : Tree n b)
    (at0 : At K B' (StS st lf ln) (StZ st lf ln) [.un, s1, .r st, .o kn (.lst refs), s4, .d (eTree n a), .d (eTree n b), .un, .un, .un, s10, s11, .d (eI (farN n a b))] σ H)
    {p : Addr} {ws : List V} {H1 : Hp} (e : Ex H H1) (hp : H p = none) (h1 : H1 p = some (.lst ws)) (d1 : DpAll K H1 ws [eTree n b, eTree n a, .str (PyData.shown (eI (farN n a b)))]) :
    KnW K B st lf ln kn (es.length + 1) σ (L2.upd H1 kn (.lst (refs ++ [.ref p]))) := by
  have a1 := at0.ex e
  have hkn : H1 kn = some (.lst refs) := (a1.ok.o (i := 3) (p := kn) (u := .lst refs) rfl).2
  have hkn0 : H kn = some (.lst refs) := (at0.ok.o (i := 3) (p := kn) (u := .lst refs) rfl).2
  have hpk : p ≠ kn := fun z => by rw [z, hkn0] at hp; cases hp
  have hps : ¬ StS st lf ln p := new_noS at0.z hp
  have a2 := a1.upd (o := .lst (refs ++ [.ref p])) (s' := .o kn (.lst (refs ++ [.ref p]))) hkn rfl hk hks ⟨rfl, upd_same⟩
  generalize hH : L2.upd H1 kn (.lst (refs ++ [.ref p])) = H2 at a2 ⊢
  let C : Hp := fun x => if (x = st ∨ x = lf ∨ x = ln) ∨ x = kn then none else H2 x
  have cin : ∀ {x}, (StS st lf ln x ∨ x = kn) → C x = none := fun h => if_pos h
  have cout : ∀ {x}, ¬ (StS st lf ln x ∨ x = kn) → C x = H1 x := fun {x} h => by
    show (if (x = st ∨ x = lf ∨ x = ln) ∨ x = kn then none else H2 x) = _
    rw [if_neg (show ¬ ((x = st ∨ x = lf ∨ x = ln) ∨ x = kn) from h), ← hH, upd_ne fun z => h (.inr z)]
  have eC : Ex B' C := fun x o hx => by
    rw [cout fun h => ?_]
    · exact a1.eb _ _ hx
    · rcases h with h | h
      · rw [hs x h] at hx; cases hx
      · rw [h, hk] at hx; cases hx
  have tC : TX H1 C := fun x xs h => by
    have nx : ¬ (StS st lf ln x ∨ x = kn) := fun z => by
      rcases z with z | z
      · obtain ⟨o, k1, k2⟩ := a1.z.at z
        rcases h with h | ⟨ob, h⟩
        · rw [k1] at h; cases h; cases k2
        · rw [k1] at h; cases h; cases k2
      · rw [z] at h
        rcases h with h | ⟨ob, h⟩
        · rw [hkn] at h; cases h
        · rw [hkn] at h; cases h
    rcases h with h | ⟨ob, h⟩
    · exact .inl (by rw [cout nx]; exact h)
    · exact .inr ⟨ob, by rw [cout nx]; exact h⟩
  have cp : C p = some (.lst ws) := by rw [cout fun h => h.elim hps hpk]; exact h1
  refine ⟨C, es ++ [(n, a, b)], refs ++ [.ref p], s1, s4, .d (eTree n a), .d (eTree n b), s10, s11, .d (eI (farN n a b)), eB.tr eC, cin (.inr rfl), fun x h => cin (.inl h), hks, ?_, by simp, fun x hx => ?_, ⟨p1, p4, trivial, trivial, p10, p11, trivial⟩, fun x o hx => ?_, a2.z, ?_⟩
  · rw [List.map_append]
    refine dps_app (dps_ex eC _ _ hr) (.cons (.lst (SqL.of cp) (dps_tx tC _ _ ?_ d1)) .nil)
    simp [noLs, noL, nl_Tree]
  · rcases List.mem_append.mp hx with hx | hx
    · exact he x hx
    · rw [List.mem_singleton.mp hx]; exact ⟨h0, h5, ta, tb⟩
  · by_cases z : StS st lf ln x ∨ x = kn
    · rw [cin z] at hx; cases hx
    · have hx : (if (x = st ∨ x = lf ∨ x = ln) ∨ x = kn then none else H2 x) = some o := hx
      rw [if_neg (show ¬ ((x = st ∨ x = lf ∨ x = ln) ∨ x = kn) from z)] at hx; exact hx
  · have ok := envB eC a2.ok
    simpa only [List.map_cons, List.map_nil, put_r, put_d, put_un, put_pl p1, put_pl p4, put_pl p10, put_pl p11, put_o] using ok
end
end Fk
/-! the walks, 25: the law -/
namespace Fk
open PySem PySem.Spec PyProof.Rows L2
def c1 : List Lot := [[0, 1], [2, 3], [0, 1, 2, 3]]
def c2 : List Lot := [[0, 1], [0, 1, 2], [0, 1, 2, 3]]
def c3 : List Lot := [[0, 1, 2, 3]]
theorem t_c1 : Tree 4 c1 := chkTree_ok (by decide +kernel)
theorem t_c2 : Tree 4 c2 := chkTree_ok (by decide +kernel)
theorem t_c3 : Tree 4 c3 := chkTree_ok (by decide +kernel)
theorem far_12 : farN 4 c1 c2 = 1 := by decide +kernel
theorem far_13 : farN 4 c1 c3 = 2 := by decide +kernel
theorem cutD_mem {ds : List PyData} {lo hi : Option Int} {d : PyData} (h : d ∈ cutD ds lo hi) : d ∈ ds := List.mem_of_mem_drop (List.mem_of_mem_take h)
theorem fineK {st lf ln kn : Addr} {refs : List V} {s1 s4 s5 s6 s10 s11 s12 : Sl} (h : ¬ StS st lf ln kn) (p1 : Pl s1) (p4 : Pl s4) (p5 : Pl s5) (p6 : Pl s6) (p10 : Pl s10) (p11 : Pl s11) (p12 : Pl s12) : Fine (StS st lf ln) [.un, s1, .r st, .o kn (.lst refs), s4, s5, s6, .un, .un, .un, s10, s11, s12] := by
  constructor
  · intro q hq
    have : q = kn := by simpa [adrs, adrs_pl p1, adrs_pl p4, adrs_pl p5, adrs_pl p6, adrs_pl p10, adrs_pl p11, adrs_pl p12] using hq
    rw [this]; exact h
  · simp [noT, noT_pl p1, noT_pl p4, noT_pl p5, noT_pl p6, noT_pl p10, noT_pl p11, noT_pl p12]
theorem ok_three {n : Nat} {a b c : List Lot} (h : n ≤ 9) (ta : Tree n a) (tb : Tree n b) (tc : Tree n c) : okD (.list ([a, b, c].map (eTree n))) = true := (okw_trees h (by
  intro m hm
  simp only [List.mem_cons, List.not_mem_nil, or_false] at hm
  rcases hm with rfl | rfl | rfl
  · exact ta
  · exact tb
  · exact tc) (by simp)).ok (by decide) (by decide)
section
variable {P : Program} {w : World} {K : PySem.W.Frag} {mg : Str → Option Value} {base : Heap}
def sp_law (K : PySem.W.Frag) : Sp := fun vs H Q _ => ∃ (a : Addr) (ns : List Int), vs = [.ref a] ∧ SqL K H a (ns.map V.int) ∧ ∀ H', Ex H H' → Q (.bl true) H'
theorem len_law (vs : List V) (H : Hp) (Q : VK) (E : XK) (h : sp_law K vs H Q E) : vs.length = 1 := by
  obtain ⟨a, ns, rfl, _⟩ := h; rfl
-- slots: _law_script:0 _law_turn:1 _law_store_here:2 _law_known:3 _law_size:4 _law_one:5 _law_two:6 _law_told:7 _law_first:8 _law_second:9 _law_three:10 _law_text:11 _law_far_here:12  level 11
abbrev N_law : List Str := ["_law_script", "_law_turn", "_law_store_here", "_law_known", "_law_size", "_law_one", "_law_two", "_law_told", "_law_first", "_law_second", "_law_three", "_law_text", "_law_far_here"]
theorem sc_law : FnScope N_law ["_law_script"] (defScope s_law) := ⟨rfl, rfl, rfl, by decide +kernel, rfl, by decide +kernel, by decide +kernel⟩
theorem bd_law : BindsBy "law" s_law ["_law_script"] := fun _ _ _ _ _ _ us hl => match us, hl with | [_], _ => rfl
theorem ok_law (F : Here K mg "law" s_law) (bs : Bs mg) (h__law_by_cut : Ok P w K mg base 10 "_law_by_cut" ["_law_store_here", "_law_size"] (sp__law_by_cut K)) (h__law_by_less : Ok P w K mg base 10 "_law_by_less" ["_law_store_here", "_law_one", "_law_two", "_law_far_here"] (sp__law_by_less K)) (h__law_by_more : Ok P w K mg base 10 "_law_by_more" ["_law_store_here", "_law_one", "_law_two", "_law_far_here"] (sp__law_by_more K)) (h__law_by_names : Ok P w K mg base 10 "_law_by_names" ["_law_store_here", "_law_one", "_law_two", "_law_far_here"] (sp__law_by_names K)) (h__law_by_parts : Ok P w K mg base 10 "_law_by_parts" ["_law_own"] (sp__law_by_parts K)) (h__law_by_three : Ok P w K mg base 10 "_law_by_three" ["_law_one", "_law_two", "_law_three"] (sp__law_by_three K)) (h__law_draw : Ok P w K mg base 1 "_law_draw" ["_law_store_here", "_law_size"] (sp__law_draw K)) (h__law_far : Ok P w K mg base 6 "_law_far" ["_law_one", "_law_two"] (sp__law_far K)) (h__law_pick : Ok P w K mg base 2 "_law_pick" ["_law_store_here", "_law_row"] (sp__law_pick K)) (h__law_store : Ok P w K mg base 1 "_law_store" ["_law_script"] (sp__law_store K)) (h__law_world : Ok P w K mg base 6 "_law_world" ["_law_store_here", "_law_size", "_law_tall"] (sp__law_world K)) (h_distance : Ok P w K mg base 9 "distance" ["tree", "other"] (sp_distance K)) : Ok P w K mg base 11 "law" ["_law_script"] (sp_law K) := by
  have nd := sc_law.nd
  refine mkG F sc_law bd_law ( len_law) fun f cdv A outer s H E hg hr => ⟨_, (pss_cons (ps_par (i := 2) (j := 3) rfl nd rfl rfl (by decide) rfl rfl (pa_cons (pe_callN h__law_store hg (hr.mono (by decide)) rfl (pa_cons (pv 0) pa_nil)) (pa_cons (pe_lst pa_nil) pa_nil)) rfl)
    (pss_cons (ps_for PassesOwn.never rfl (pi_range1 rfl bs.range (pa_cons pe_int pa_nil)) (pg_name (i := 1) nd rfl (Or.inl rfl)) (pss_cons (ps_set (i := 4) nd rfl (Or.inl rfl) (pe_callN h__law_pick hg (hr.mono (by decide)) rfl (pa_cons (pv 2) (pa_cons (pe_ix (ix_lk K rfl) (pe_lst (pa_cons (pe_lst (pa_cons pe_int (pa_cons pe_int (pa_cons pe_int pa_nil)))) (pa_cons (pe_lst (pa_cons pe_int (pa_cons pe_int (pa_cons pe_int (pa_cons pe_int (pa_cons pe_int pa_nil)))))) (pa_cons (pe_lst (pa_cons pe_int (pa_cons pe_int (pa_cons pe_int (pa_cons (pe_op op_add pe_int (pe_callN h__law_draw hg (hr.mono (by decide)) rfl (pa_cons (pv 2) (pa_cons pe_int pa_nil)))) pa_nil))))) pa_nil)))) (pv 1) (fun _ _ => rfl)) pa_nil))))
    (pss_cons (ps_asg (pe_callN h__law_world hg (hr.mono (by decide)) rfl (pa_cons (pv 2) (pa_cons (pv 4) (pa_cons pe_int pa_nil)))) (pg_tup rfl (pgs_cons (pg_name (i := 5) nd rfl (Or.inl rfl)) (pgs_cons (pg_name (i := 6) nd rfl (Or.inl rfl)) (pgs_cons (pg_name (i := 10) nd rfl (Or.inl rfl)) pgs_nil)))))
    (pss_cons (ps_par (i := 11) (j := 12) rfl nd rfl rfl (by decide) rfl rfl (pa_cons (pe_callB (cr_reprk K rfl hg hr) rfl bs.repr (by decide +kernel) (pa_cons (pe_lst (pa_cons (pv 5) (pa_cons (pv 6) (pa_cons (pv 10) pa_nil)))) pa_nil)) (pa_cons (pe_callN h__law_far hg (hr.mono (by decide)) rfl (pa_cons (pv 5) (pa_cons (pv 6) pa_nil))) pa_nil)) rfl)
    (pss_cons (ps_if (PW.pt (pw_or (pt_not (pt_val (pe_callN h__law_by_three hg hr rfl (pa_cons (pv 5) (pa_cons (pv 6) (pa_cons (pv 10) pa_nil)))))) (pw_or1 (pt_not (pt_val (pe_callN h__law_by_less hg hr rfl (pa_cons (pv 2) (pa_cons (pv 5) (pa_cons (pv 6) (pa_cons (pv 12) pa_nil)))))))))) (pss_cons (ps_ret pe_bl)
    pss_nil) pss_nil)
    (pss_cons (ps_if (PW.pt (pw_and (pt_cmpR op_gt (pv 1) pe_int (nomark _)) (pw_and1 (pt_not (PW.pt (pw_and (pt_val (pe_callN h__law_by_more hg hr rfl (pa_cons (pv 2) (pa_cons (pv 5) (pa_cons (pv 6) (pa_cons (pv 12) pa_nil)))))) (pw_and1 (pt_val (pe_callN h__law_by_names hg hr rfl (pa_cons (pv 2) (pa_cons (pv 5) (pa_cons (pv 6) (pa_cons (pv 12) pa_nil))))))))))))) (pss_cons (ps_ret pe_bl)
    pss_nil) pss_nil)
    (pss_cons (ps_if (PW.pt (pw_or (pt_not (pt_val (pe_callN h__law_by_parts hg hr rfl (pa_cons (pv 10) pa_nil)))) (pw_or (pt_not (pt_val (pe_callN h__law_by_cut hg hr rfl (pa_cons (pv 2) (pa_cons (pv 4) pa_nil))))) (pw_or1 (pt_cmpR op_ne (pe_callB (cr_reprk K rfl hg hr) rfl bs.repr (by decide +kernel) (pa_cons (pe_lst (pa_cons (pv 5) (pa_cons (pv 6) (pa_cons (pv 10) pa_nil)))) pa_nil)) (pv 11) (nomark _)))))) (pss_cons (ps_ret pe_bl)
    pss_nil) pss_nil)
    (pss_cons (ps_expr (pe_bm PySem.F.plainAttrs_list PySem.F.slot_list_append PySem.F.type_list_append mt_append (pv 3) (pa_cons (pe_lst (pa_cons (pv 6) (pa_cons (pv 5) (pa_cons (pe_callB (cr_reprk K rfl hg hr) rfl bs.repr (by decide +kernel) (pa_cons (pv 12) pa_nil)) pa_nil)))) pa_nil)))
    pss_nil))))))))
    (pss_cons (ps_for PassesOwn.never rfl (pi_lk K rfl (pe_slice (sl_lk K rfl) (pv 3) (po_some pe_int) po_none)) (pg_lst rfl (pgs_cons (pg_name (i := 5) nd rfl (Or.inl rfl)) (pgs_cons (pg_name (i := 6) nd rfl (Or.inl rfl)) (pgs_cons (pg_name (i := 7) nd rfl (Or.inl rfl)) pgs_nil)))) (pss_cons (ps_if (pt_cmpR op_ne (pe_callB (cr_reprk K rfl hg hr) rfl bs.repr (by decide +kernel) (pa_cons (pe_callN h_distance hg (hr.mono (by decide)) rfl (pa_cons (pv 5) (pa_cons (pv 6) pa_nil))) pa_nil)) (pv 7) (nomark _)) (pss_cons (ps_ret pe_bl)
    pss_nil) pss_nil)
    pss_nil))
    (pss_cons (ps_asg (pe_tup (pa_cons (pe_tup (pa_cons pe_int (pa_cons (pe_tup (pa_cons (pe_tup (pa_cons pe_int (pa_cons pe_int pa_nil))) (pa_cons (pe_tup (pa_cons pe_int (pa_cons pe_int pa_nil))) (pa_cons (pe_tup (pa_cons pe_int (pa_cons pe_int (pa_cons pe_int (pa_cons pe_int pa_nil))))) pa_nil)))) pa_nil))) (pa_cons (pe_tup (pa_cons pe_int (pa_cons (pe_tup (pa_cons (pe_tup (pa_cons pe_int (pa_cons pe_int pa_nil))) (pa_cons (pe_tup (pa_cons pe_int (pa_cons pe_int (pa_cons pe_int pa_nil)))) (pa_cons (pe_tup (pa_cons pe_int (pa_cons pe_int (pa_cons pe_int (pa_cons pe_int pa_nil))))) pa_nil)))) pa_nil))) pa_nil))) (pg_tup rfl (pgs_cons (pg_name (i := 8) nd rfl (Or.inl rfl)) (pgs_cons (pg_name (i := 9) nd rfl (Or.inl rfl)) pgs_nil))))
    (pss_cons (ps_ret (pe_cmpR op_eq (pe_callB (cr_reprk K rfl hg hr) rfl bs.repr (by decide +kernel) (pa_cons (pe_lst (pa_cons (pe_callN h_distance hg (hr.mono (by decide)) rfl (pa_cons (pv 8) (pa_cons (pv 9) pa_nil))) (pa_cons (pe_callN h_distance hg (hr.mono (by decide)) rfl (pa_cons (pv 8) (pa_cons (pe_tup (pa_cons pe_int (pa_cons (pe_tup (pa_cons (pe_tup (pa_cons pe_int (pa_cons pe_int (pa_cons pe_int (pa_cons pe_int pa_nil))))) pa_nil)) pa_nil))) pa_nil))) pa_nil))) pa_nil)) (pe_callB (cr_reprk K rfl hg hr) rfl bs.repr (by decide +kernel) (pa_cons (pe_lst (pa_cons pe_int (pa_cons pe_int pa_nil))) pa_nil)) (nomark _)))
    pss_nil))))), ?_⟩
  rintro vs H Q E ⟨a0, ns, rfl, hs0, q⟩
  refine ⟨.ref a0, rfl, ?_⟩
  refine ⟨a0, ns, rfl, hs0, fun st lf ln H1 e1 hst hlf hln hz => ?_⟩
  refine ⟨sz_of (by simp), fun kn hkn => ⟨_, _, rfl, ?_⟩⟩
  have e2 : Ex H (L2.upd H1 kn (.lst [])) := e1.tr (Evl.Ex.new hkn)
  have hkn0 : H kn = none := Evl.fresh_back e1 hkn
  have hS0 : ∀ a, StS st lf ln a → H a = none := fun a h => by
    rcases h with rfl | rfl | rfl
    · exact hst
    · exact hlf
    · exact hln
  have hks : ¬ StS st lf ln kn := new_noS hz hkn
  refine (q_forRW (K := K) (B := H) (S := StS st lf ln) (Z := StZ st lf ln) (ρ := [.un, .un, .r st, .o kn (.lst []), .un, .un, .un, .un, .un, .un, .un, .un, .un]) (n := 3) (j := 1) (ea_cons ed_int ea_nil) (by omega) (KnW K H st lf ln kn) (fun σ H' ok eb z => ⟨H, [], [], .un, .un, .un, .un, .un, .un, .un, Ex.rf, hkn0, hS0, hks, .nil, rfl, by simp, ⟨trivial, trivial, trivial, trivial, trivial, trivial, trivial⟩, eb, z, ok⟩) (fun z e => z.ex e) (fun i σ H' hi hw => ?_) fun σ H' hw => ?_) _ _ ⟨e2, hz.ex (Evl.Ex.new hkn), trivial, trivial, rfl, ⟨rfl, upd_same⟩, trivial, trivial, trivial, trivial, trivial, trivial, trivial, trivial, trivial, trivial⟩
  · obtain ⟨B', es, refs, s1, s4, s5, s6, s10, s11, s12, eB, hk, hsB, _, hr, hl, he, ⟨p1, p4, p5, p6, p10, p11, p12⟩, at0⟩ := hw
    have zs : ZS st lf ln (StS st lf ln) (StZ st lf ln) B' := ⟨fun _ h => h, fun z => z, fun _ _ z => z, hsB⟩
    refine (?_ : TrR K B' (StS st lf ln) (StZ st lf ln) _ [.un, .d (eI i), .r st, .o kn (.lst refs), s4, s5, s6, .un, .un, .un, s10, s11, s12] _) _ _ (at0.set (i := 1) (s := .d (eI i)) ⟨_, rfl, .inr ⟨rfl, .int _⟩⟩)
    refine q_asgX (ex_rows (i := i) (Po := fun d ρ' => ∃ n, 0 < n ∧ n ≤ 5 ∧ (0 < i → n ≤ 4) ∧ d = eI n ∧ ρ' = [.un, .d (eI i), .r st, .o kn (.lst refs), s4, s5, s6, .un, .un, .un, s10, s11, s12]) zs (fineK hks trivial p4 p5 p6 p10 p11 p12) rfl rfl hi fun n h1 h2 h3 => ⟨n, h1, h2, h3, rfl, rfl⟩) fun d ρ' hp => ?_
    obtain ⟨n, n0, n5, n4, rfl, rfl⟩ := hp
    have n9 : n ≤ 9 := by omega
    refine ⟨rfl, ?_⟩
    show TrR K B' _ _ _ [.un, .d (eI i), .r st, .o kn (.lst refs), .d (eI n), s5, s6, .un, .un, .un, s10, s11, s12] _
    refine q_unpX (ex_call (R := R__law_world) (ds := [eI n, eI 3]) zs (fineK hks trivial trivial p5 p6 p10 p11 p12) rfl (ea_cons (ed_var rfl) (ea_cons ed_int ea_nil)) ?_) fun d ρ' hp => ?_
    · obtain ⟨ms, t, _⟩ := tree_wit 3 n0
      exact ⟨_, n, ms, ms, ms, rfl, n0, n9, t, t, t, rfl⟩
    obtain ⟨hd, rfl⟩ := hp
    obtain ⟨a, b, c, ta, tb, tc, rfl⟩ := world_of hd
    refine ⟨_, gt_tup3 (nl_Tree _ _) (nl_Tree _ _) (nl_Tree _ _), ?_⟩
    show TrR K B' _ _ _ [.un, .d (eI i), .r st, .o kn (.lst refs), .d (eI n), .d (eTree n a), .d (eTree n b), .un, .un, .un, .d (eTree n c), s11, s12] _
    have ok3 := ok_three n9 ta tb tc
    refine q_parDD (d := .str (PyData.shown (.list ([a, b, c].map (eTree n))))) (d2 := eI (farN n a b)) (ea_cons (ed_reprL (ds := [a, b, c].map (eTree n)) (ed_L (el_lst (ea_cons (ed_var rfl) (ea_cons (ed_var rfl) (ea_cons (ed_var rfl) ea_nil))) (by simp))) ok3) (ea_cons (ed_far ta tb n9 (ed_var rfl) (ed_var rfl)) ea_nil)) rfl rfl ?_
    show TrR K B' _ _ _ [.un, .d (eI i), .r st, .o kn (.lst refs), .d (eI n), .d (eTree n a), .d (eTree n b), .un, .un, .un, .d (eTree n c), .d (.str (PyData.shown (.list ([a, b, c].map (eTree n))))), .d (eI (farN n a b))] _
    generalize hρ : [Sl.un, .d (eI i), .r st, .o kn (.lst refs), .d (eI n), .d (eTree n a), .d (eTree n b), .un, .un, .un, .d (eTree n c), .d (.str (PyData.shown (.list ([a, b, c].map (eTree n))))), .d (eI (farN n a b))] = ρ0
    have fn : Fine (StS st lf ln) ρ0 := by subst hρ; exact fineK hks trivial trivial trivial trivial trivial trivial trivial
    have r1 : ρ0[1]? = some (.d (eI i)) := by subst hρ; rfl
    have r2 : ρ0[2]? = some (.r st) := by subst hρ; rfl
    have r4 : ρ0[4]? = some (.d (eI n)) := by subst hρ; rfl
    have r5 : ρ0[5]? = some (.d (eTree n a)) := by subst hρ; rfl
    have r6 : ρ0[6]? = some (.d (eTree n b)) := by subst hρ; rfl
    have r10 : ρ0[10]? = some (.d (eTree n c)) := by subst hρ; rfl
    have r11 : ρ0[11]? = some (.d (.str (PyData.shown (.list ([a, b, c].map (eTree n)))))) := by subst hρ; rfl
    have r12 : ρ0[12]? = some (.d (eI (farN n a b))) := by subst hρ; rfl
    refine q_ifX (Po := fun x ρ' => x = false ∧ ρ' = ρ0) (tx_or (Pa := fun x ρ' => x = false ∧ ρ' = ρ0) (tx_t (et_is (et_not (et_B (ed_call (ea_cons (ed_var r5) (ea_cons (ed_var r6) (ea_cons (ed_var r10) ea_nil))) ⟨n, a, b, c, rfl, n0, n5, ta, tb, tc, rfl⟩))) rfl)) (by rintro ρ' ⟨h, _⟩; cases h) ?_) (by rintro ρ' ⟨h, _⟩; cases h) ?_
    · rintro ρ' ⟨_, hr1⟩
      rw [hr1]
      refine tx_not (tx_B (ex_w (ex_call (R := R__law_by_less) (ds := [eTree n a, eTree n b, eI (farN n a b)]) zs fn r2 (ea_cons (ed_var r5) (ea_cons (ed_var r6) (ea_cons (ed_var r12) ea_nil))) ⟨_, n, a, b, rfl, n0, n5, ta, tb, rfl⟩) ?_))
      rintro d ρ' ⟨⟨_, _, _, _, _, _, _, _, rfl⟩, rfl⟩
      exact ⟨true, rfl, rfl, rfl⟩
    rintro ρ' ⟨_, hr1⟩
    rw [hr1]
    refine q_next ?_
    refine q_ifX (Po := fun x ρ'' => x = false ∧ ρ'' = ρ0) (tx_and (Pa := fun x ρ'' => x = decide (0 < i) ∧ ρ'' = ρ0) (tx_t (et_test (ed_gtN (b := 0) (ed_var r1) ed_int))) (by rintro ρ'' ⟨_, rfl⟩; exact ⟨rfl, rfl⟩) ?_) (by rintro ρ'' ⟨h, _⟩; cases h) ?_
    · rintro ρ'' ⟨hi0, hr2⟩
      rw [hr2]
      have n4 := n4 (of_decide_eq_true hi0.symm)
      refine tx_not (tx_and (Pa := fun x ρ'' => x = true ∧ ρ'' = ρ0) (tx_B (ex_w (ex_call (R := R__law_by_more) (ds := [eTree n a, eTree n b, eI (farN n a b)]) zs fn r2 (ea_cons (ed_var r5) (ea_cons (ed_var r6) (ea_cons (ed_var r12) ea_nil))) ⟨_, n, a, b, rfl, n0, n4, ta, tb, rfl⟩) ?_)) (by rintro ρ'' ⟨h, _⟩; cases h) ?_)
      · rintro d ρ'' ⟨⟨_, _, _, _, _, _, _, _, rfl⟩, rfl⟩
        exact ⟨true, rfl, rfl, rfl⟩
      · rintro ρ'' ⟨_, hr3⟩
        rw [hr3]
        refine tx_B (ex_w (ex_call (R := R__law_by_names) (ds := [eTree n a, eTree n b, eI (farN n a b)]) zs fn r2 (ea_cons (ed_var r5) (ea_cons (ed_var r6) (ea_cons (ed_var r12) ea_nil))) ⟨_, n, a, b, rfl, n0, n5, ta, tb, rfl⟩) ?_)
        rintro d ρ'' ⟨⟨_, _, _, _, _, _, _, _, rfl⟩, rfl⟩
        exact ⟨true, rfl, rfl, rfl⟩
    rintro ρ'' ⟨_, hr2⟩
    rw [hr2]
    refine q_next ?_
    refine q_ifX (Po := fun x ρ2 => x = false ∧ ρ2 = ρ0) (tx_or (Pa := fun x ρ2 => x = false ∧ ρ2 = ρ0) (tx_t (et_is (et_not (et_B (ed_call (ea_cons (ed_var r10) ea_nil) ⟨n, c, rfl, n0, n5, tc, rfl⟩))) rfl)) (by rintro ρ2 ⟨h, _⟩; cases h) ?_) (by rintro ρ2 ⟨h, _⟩; cases h) ?_
    · rintro ρ2 ⟨_, hr3⟩
      rw [hr3]
      refine tx_or (Pa := fun x ρ3 => x = false ∧ ρ3 = ρ0) (tx_not (tx_B (ex_w (ex_call (R := R__law_by_cut) (ds := [eI n]) zs fn r2 (ea_cons (ed_var r4) ea_nil) ⟨_, n, rfl, n0, n5, rfl⟩) ?_))) (by rintro ρ3 ⟨h, _⟩; cases h) ?_
      · rintro d ρ3 ⟨⟨_, _, _, _, rfl⟩, rfl⟩
        exact ⟨true, rfl, rfl, rfl⟩
      · rintro ρ3 ⟨_, hr4⟩
        rw [hr4]
        exact tx_t (et_is (et_test (ed_neStr (ed_reprL (ds := [a, b, c].map (eTree n)) (ed_L (el_lst (ea_cons (ed_var r5) (ea_cons (ed_var r6) (ea_cons (ed_var r10) ea_nil))) (by simp))) ok3) (ed_var r11))) (by simp))
    rintro ρ2 ⟨_, hr3⟩
    rw [hr3]
    refine q_next ?_
    subst hρ
    refine fun σ3 H3 a3 => ⟨_, (a3.ok.o (i := 3) (p := kn) (u := .lst refs) rfl).1, Or.inl ⟨rfl, refs, SqL.of (a3.ok.o (i := 3) (p := kn) (u := .lst refs) rfl).2⟩, ?_⟩
    refine el_lst (K := K) (B := B') (ds := [eTree n b, eTree n a, .str (PyData.shown (eI (farN n a b)))]) (ea_cons (ed_var r6) (ea_cons (ed_var r5) (ea_cons (ed_reprI (ed_var r12) (far_lt n9 _ _)) ea_nil))) (by simp) σ3 H3 a3.eb a3.ok _ fun p ws H4 e4 hp4 h4 d4 => ?_
    refine ⟨kn, refs, .ref p, rfl, rfl, e4 _ _ (a3.ok.o (i := 3) (p := kn) (u := .lst refs) rfl).2, Evl.sz_lt (by rw [dps_len hr, List.length_map]; omega), ?_⟩
    subst hl
    exact know eB hk hsB hks hr he (by omega) (show Pl (.d (eI es.length)) from trivial) (show Pl (.d (eI n)) from trivial) (show Pl (.d (eTree n c)) from trivial) (show Pl (.d (.str (PyData.shown (.list ([a, b, c].map (eTree n)))))) from trivial) n0 n5 ta tb a3 e4 hp4 h4 d4
  · obtain ⟨B', es, refs, s1, s4, s5, s6, s10, s11, s12, eB, hk, hsB, _, hr, hl, he, _, at0⟩ := hw
    have at3 : At K H' S0 Z0 [.un, .un, .un, .d (.list (es.map entD)), .un, .un, .un, .un, .un, .un, .un, .un, .un] σ H' := ⟨Ex.rf, trivial, by
      match σ, at0.ok with
      | [_, _, _, _, _, _, _, _, _, _, _, _, _], ⟨_, _, _, ⟨e, hk2⟩, _⟩ =>
        exact ⟨trivial, trivial, trivial, ⟨_, e, .inl (.lst (SqL.of hk2) (dps_ex at0.eb _ _ hr))⟩, trivial, trivial, trivial, trivial, trivial, trivial, trivial, trivial, trivial, trivial⟩⟩
    refine (q_forF (K := K) (B := H') (P := fun ρ' => ∃ s5 s6 s7, ρ' = [.un, .un, .un, .d (.list (es.map entD)), .un, s5, s6, s7, .un, .un, .un, .un, .un]) (el_slL (ed_var rfl) (eo_some ed_int) eo_none) ⟨_, _, _, rfl⟩ (fun B2 eB2 d hd ρ' hp => ?_) fun B2 eB2 ρ' hp => ?_) _ _ at3
    · obtain ⟨s5, s6, s7, rfl⟩ := hp
      obtain ⟨e, hes, rfl⟩ := List.mem_map.mp (cutD_mem hd)
      obtain ⟨h0, h5, ta, tb⟩ := he e hes
      refine ⟨_, show GT K B2 S0 Z0 _ _ (.list [eTree e.1 e.2.2, eTree e.1 e.2.1, .str (PyData.shown (eI (farN e.1 e.2.1 e.2.2)))]) _ from gt_lst3 (x := eTree e.1 e.2.2) (y := eTree e.1 e.2.1) (w := .str (PyData.shown (eI (farN e.1 e.2.1 e.2.2)))) (nl_Tree _ _) (nl_Tree _ _) rfl, ?_⟩
      show TrR K B2 _ _ _ [.un, .un, .un, .d (.list (es.map entD)), .un, .d (eTree e.1 e.2.2), .d (eTree e.1 e.2.1), .d (.str (PyData.shown (eI (farN e.1 e.2.1 e.2.2)))), .un, .un, .un, .un, .un] _
      exact q_if (b := false) (et_is (et_test (ed_neStr (ed_reprI (n := farN e.1 e.2.1 e.2.2) (ed_is (ed_dist tb ta h0 h5 (ed_var rfl) (ed_var rfl)) (by rw [far_comm])) (far_lt (by omega) _ _)) (ed_var rfl))) (by simp)) (fun h => nomatch h) (fun _ => q_next (q_next (q_lf ⟨_, _, _, rfl⟩)))
    · obtain ⟨s5, s6, s7, rfl⟩ := hp
      refine q_unp (d := .tuple [eTree 4 c1, eTree 4 c2]) (ed_tup (ea_cons (ed_is (ed_tup (ea_cons ed_int (ea_cons (ed_tup (ea_cons (ed_tup (ea_cons ed_int (ea_cons ed_int ea_nil)) (by simp)) (ea_cons (ed_tup (ea_cons ed_int (ea_cons ed_int ea_nil)) (by simp)) (ea_cons (ed_tup (ea_cons ed_int (ea_cons ed_int (ea_cons ed_int (ea_cons ed_int ea_nil)))) (by simp)) ea_nil))) (by simp)) ea_nil)) (by simp)) rfl) (ea_cons (ed_is (ed_tup (ea_cons ed_int (ea_cons (ed_tup (ea_cons (ed_tup (ea_cons ed_int (ea_cons ed_int ea_nil)) (by simp)) (ea_cons (ed_tup (ea_cons ed_int (ea_cons ed_int (ea_cons ed_int ea_nil))) (by simp)) (ea_cons (ed_tup (ea_cons ed_int (ea_cons ed_int (ea_cons ed_int (ea_cons ed_int ea_nil)))) (by simp)) ea_nil))) (by simp)) ea_nil)) (by simp)) rfl) ea_nil)) (by simp)) (gt_tup2 (nl_Tree _ _) (nl_Tree _ _)) ?_
      show TrR K B2 _ _ _ [.un, .un, .un, .d (.list (es.map entD)), .un, s5, s6, s7, .d (eTree 4 c1), .d (eTree 4 c2), .un, .un, .un] _
      have ok2 : okD (.list ([1, 2].map eI)) = true := ok_ints (by simp) (by simp)
      refine q_ret (d := .bool true) (ed_is (ed_eqStr (ed_reprL (ds := [1, 2].map eI) (ed_L (el_lst (ea_cons (ed_is (ed_dist t_c1 t_c2 (by decide) (by decide) (ed_var rfl) (ed_var rfl)) (by rw [far_12])) (ea_cons (ed_is (ed_dist t_c1 t_c3 (by decide) (by decide) (ed_var rfl) (ed_is (ed_tup (ea_cons ed_int (ea_cons (ed_tup (ea_cons (ed_tup (ea_cons ed_int (ea_cons ed_int (ea_cons ed_int (ea_cons ed_int ea_nil)))) (by simp)) ea_nil) (by simp)) ea_nil)) (by simp)) rfl)) (by rw [far_13])) ea_nil)) (by simp))) ok2) (ed_reprL (ds := [1, 2].map eI) (ed_L (el_lst (ea_cons ed_int (ea_cons ed_int ea_nil)) (by simp))) ok2)) (by simp)) fun v H2 e _ h => ?_
      obtain rfl := dp_bl h
      exact q H2 (((eB.tr at0.eb).tr eB2).tr e)
end
end Fk
/-! the end: a law's call where no repr is under way -/
namespace Fk
open PySem PySem.Spec PyProof.Rows L2
section
variable {P : Program} {w : World} {K : PySem.W.Frag} {mg mb : Str → Option Value} {k : Nat} {f l : Addr} {nm x : Str} {sp : Sp} {s : Shared} {us : List Value} {zs : List Int} {T : Hp}
/-- the script as an object -/
abbrev scrO (us : List Value) : Obj := { cls := .type "list", data := .seq us.toArray }
/-- a heap in which the script at most stands, frozen -/
structure Scr (P : Program) (w : World) (K : PySem.W.Frag) (l : Addr) (h : Heap) (T : Hp) : Prop where
  only : Only T
  ok : HOk P w T h
  one : ∀ b, T b ≠ none → b = l
  own : T l ≠ none → K.lookup l = none
theorem Scr.hid_ns (c : Scr P w K l s.heap T) (hl : s.heap.get? l = some (scrO us)) {b : Addr} {m : Str → Option Value} (N : s.heap.Ns b m) : (hidT s.heap T).Ns b m := by
  obtain ⟨o, es, ep, e, d, r⟩ := N
  refine ⟨o, es, ep, hidT_get e ?_, d, r⟩
  match t : T b with
  | none => rfl
  | some u =>
    have z := c.one b (by rw [t]; exact fun z => nomatch z)
    rw [z, hl] at e
    injection e with e
    rw [← e] at d
    exact nomatch d
theorem Scr.hid_K (c : Scr P w K l s.heap T) (KX : K.In s.heap) : K.In (hidT s.heap T) := fun b o e => hidT_get (KX b o e) (by
  match t : T b with
  | none => rfl
  | some u =>
    have z := c.one b (by rw [t]; exact fun z => nomatch z)
    rw [z] at e t
    rw [c.own (by rw [t]; exact fun z => nomatch z)] at e
    exact nomatch e)
/-- what a law's call is to come to -/
abbrev EndOk (s : Shared) (r : Except Value Flow) (s' : Shared) : Prop := r = .ok (.ret (.bool true)) ∧ OldK s.heap s'.heap ∧ s'.os = s.os ∧ AllBare s'.gens
theorem Scr.call (c : Scr P w K l s.heap T) (hl : s.heap.get? l = some (scrO us)) (S : SqL K T l (zs.map V.int)) (KX : K.In s.heap) (N1 : s.heap.Ns mainGlobals mg) (N2 : s.heap.Ns builtinsNs mb) (N3 : ∀ y : Str, y ≠ "__name__" → mb y = bootBuiltins y) (N4 : s.heap.NoLimit) (g0 : s.gens = #[]) (hr : Room k callerA)
    (F : ∀ base : Heap, K.In base → base.Ns mainGlobals mg → Ok P w K mg base k nm [x] sp) (hm : mg nm = some (.ref f))
    (pr : ∀ T : Hp, Only T → SqL K T l (zs.map V.int) → sp [.ref l] T (fun v _ => v = .bl true) E0) :
    codeAny (model P w) callerA (.call (.ref f) ⟨[.ref l], []⟩) (EndOk s) s := by
  have N4' : (hidT s.heap T).NoLimit := by
    obtain ⟨mc, m1, m2⟩ := N4
    exact ⟨mc, c.hid_ns hl m1, m2⟩
  have M : Mod K mg (hidT s.heap T) := ⟨c.hid_K KX, c.hid_ns hl N1, ⟨mb, c.hid_ns hl N2, N3⟩, N4'⟩
  have V0 : Env0 P w K mg (hidT s.heap T) callerA [] s T := by
    refine ⟨rfl, M, fun b o e => of_hidT e, Nat.le_of_eq (hidT_size _ _), trivial, fun b z => ?_, c.ok, .of_eq g0⟩
    exact absurd (show b ∈ ([] : List Addr) from z) (by simp)
  obtain ⟨f2, fd, F2, m2, _, b2⟩ := (F _ M.kin (c.hid_ns hl N1)).ex
  have e2 := hm.symm.trans m2
  injection e2 with e2
  injection e2 with e2
  rw [e2]
  have run := F2.run callerA [] s T ⟨[.ref l], []⟩ [.ref l] [.ref l] _ E0 rfl hr V0 (b2 s [.ref l] KX rfl) (.cons rfl .nil) (pr T c.only S)
  refine codeAny_mono run fun r s' z => ?_
  match r, z with
  | .error e, z => exact (show False from z).elim
  | .ok .next, z => exact False.elim z
  | .ok .brk, z => exact False.elim z
  | .ok .cont, z => exact False.elim z
  | .ok (.ret u), z =>
    obtain ⟨v, T', z1, z2, z3, z4, z5, z6⟩ := z
    have z6 : v = .bl true := z6
    rw [z6] at z5
    have z5 : u = Value.bool true := z5
    rw [z5]
    refine ⟨rfl, OldK.of_keep fun b o e => ?_, z1, z2⟩
    match t : T b with
    | none => exact z3.keep b o e t (fun z => absurd (show b ∈ ([] : List Addr) from z) (by simp)) (by simp)
    | some u =>
      rcases c.only b with y | ⟨ob, xs, y⟩
      · rw [t] at y; exact nomatch y
      · have y1 := (c.ok b _ y).1
        have y2 := (z4 b _ (z3.frzs b ob _ y)).1
        rw [e] at y1
        injection y1 with y1
        rw [y1]; exact y2
theorem callG (hl : s.heap.get? l = some (scrO us)) (is : IntsAre us zs) (len : zs.length ≤ sizeLine) (KX : K.In s.heap) (N1 : s.heap.Ns mainGlobals mg) (N2 : s.heap.Ns builtinsNs mb) (N3 : ∀ y : Str, y ≠ "__name__" → mb y = bootBuiltins y) (N4 : s.heap.NoLimit) (g0 : s.gens = #[]) (hr : Room k callerA)
    (F : ∀ base : Heap, K.In base → base.Ns mainGlobals mg → Ok P w K mg base k nm [x] sp) (hm : mg nm = some (.ref f))
    (pr : ∀ T : Hp, Only T → SqL K T l (zs.map V.int) → sp [.ref l] T (fun v _ => v = .bl true) E0) :
    codeAny (model P w) callerA (.call (.ref f) ⟨[.ref l], []⟩) (EndOk s) s := by
  have vals := vals_ints is
  have ul := is.length
  match kl : K.lookup l with
  | some o =>
    have e := KX l o kl
    rw [hl] at e
    injection e with e
    subst e
    have c : Scr P w K l s.heap (fun _ => none) := ⟨fun _ => .inl rfl, fun b u z => (nomatch (show (none : Option HO) = some u from z)), fun b z => absurd rfl z, fun z => absurd rfl z⟩
    exact c.call hl (.inr ⟨_, us.toArray, _, kl, rfl, rfl, rfl, by rw [List.size_toArray, ul]; exact len, by simpa using vals⟩) KX N1 N2 N3 N4 g0 hr F hm pr
  | none =>
    let T : Hp := fun b => if b = l then some (.frz (scrO us) (.lst (zs.map V.int))) else none
    have t1 : T l = some (.frz (scrO us) (.lst (zs.map V.int))) := if_pos rfl
    have t0 : ∀ {b}, b ≠ l → T b = none := fun h => if_neg h
    have c : Scr P w K l s.heap T := by
      refine ⟨fun b => ?_, fun b u z => ?_, fun b z => ?_, fun _ => kl⟩
      · by_cases h : b = l
        · exact .inr ⟨_, _, by rw [h]; exact t1⟩
        · exact .inl (t0 h)
      · by_cases h : b = l
        · rw [h, t1] at z
          injection z with z
          rw [← z, h]
          exact ⟨hl, by rw [List.length_map]; exact len, us, _, vals, hl⟩
        · rw [t0 h] at z; exact nomatch z
      · exact Classical.byContradiction fun h => z (t0 h)
    exact c.call hl (.inl (.inr ⟨scrO us, t1⟩)) KX N1 N2 N3 N4 g0 hr F hm pr
end
/-- a law over a head by facts -/
theorem walkG {ll : PySem.W.OpenLaw} {n k : Nat} {q : Program} {lo : List Str} {XP : (Str → Option Value) → Heap → Prop} {YP : World → Heap → Prop} {d : DefRec} {x : Str} (most : ll.most = some n) (size : n ≤ sizeLine) (plain : d.params.defaults = []) (room : Room k callerA)
    (F : ∀ (w : World) (mg : Str → Option Value) (h : Heap), YP w h → h.Ns mainGlobals mg → ∃ (K : PySem.W.Frag) (sp : Sp), K.In h ∧ (∀ (T : Hp) (l : Addr) (zs : List Int), zs.length ≤ n → Only T → SqL K T l (zs.map V.int) → sp [.ref l] T (fun v _ => v = .bl true) E0) ∧
      ∀ base : Heap, K.In base → base.Ns mainGlobals mg → Ok ll.prog w K mg base k d.name [x] sp) :
    PySem.W.WalkO q lo XP YP ll.row.toRowW d [] (fun f vs => PySem.call f vs) :=
  Att.attach_call most plain fun w s₀ s mg mb f o pm cd doc l us zs G Y _ _ _ hm hl is len g0 => by
    obtain ⟨K, sp, KX, pr, ok⟩ := F w mg _ Y G.T.g
    exact callG hl is (Nat.le_trans len size) KX G.T.g G.T.b G.T.builtins G.T.nolimit g0 room ok hm fun T o S => pr T l zs len o S
end Fk
set_option maxHeartbeats 0
namespace Fk
open PySem PySem.Spec PyProof.Rows L2
def loose0 : List PySem.Str := ["ForkError", "Unfit", "TooMany", "NotForked", "NotNest", "BadMap", "MAX_LEAVES", "bits_of", "lot_of", "lot_key", "bits_key", "ordered_bits", "all_bits", "least_leaf", "is_tip", "in_order", "tree_of_bits", "nest_bits", "parts_of_bits", "fork_bits", "parts", "fork", "bits_at", "at", "without", "need_alike_size", "nests_and_tips", "parts_or_none", "greatest_sum", "pair_number"]
def loose1 : List PySem.Str := ["table_numbers", "agreement_table", "distance", "is_within", "joined", "less", "stands_in", "with_nests", "put_in", "need_forked", "nests_left", "cut_and_put", "is_map", "renamed", "_law_store", "_law_draw", "_law_pick", "_law_line", "_law_rank", "_law_tree", "_law_crosses", "_law_named", "_law_some", "_law_near", "_law_world", "_law_lots", "_law_cut", "_law_good", "_law_far", "_law_by_three"]
def loose2 : List PySem.Str := ["_law_by_less", "_law_by_more", "_law_by_parts", "_law_by_cut", "_law_by_names"]
def loose : List PySem.Str := loose0 ++ loose1 ++ loose2
abbrev RR : PySem.W.OpenRow := PySem.W.OpenLaw.row PySem.Challenge.rw_forktold_k55_whole_distance
abbrev hk : PySem.W.Hook := He.hookD 4 fas fns
def ob (s : PySem.W.SharedT) : He.AlD := He.obsDG 4 fas fns (HandSHeadRun.getT s)
theorem ob_eq (s : PySem.W.SharedT) : ob s = hk.obs s.abs := He.obsDG_eq (HandSHeadRun.getT_eq s)
theorem run (w : World) : HandSHeadRun.RunEq RR (PySem.W.view RR.prog [74]) hk ob 30000 loose w := by
  intro os
  kernel_rfl
end Fk
/-! all defs, by the head; the end -/
namespace Fk
open PySem PySem.Spec PyProof.Rows L2
section
variable {P : Program} {w : World} {K : PySem.W.Frag} {h base : Heap} {mg : Str → Option Value}
theorem bs_of (X : K.In h) (G : h.Ns mainGlobals mg) (c : He.SaysD fas fns K) : Bs mg :=
  ⟨He.free_ok X G (c.fact 59 (f := .free "all") rfl), He.free_ok X G (c.fact 61 (f := .free "dict") rfl), He.free_ok X G (c.fact 62 (f := .free "enumerate") rfl), He.free_ok X G (c.fact 63 (f := .free "int") rfl), He.free_ok X G (c.fact 64 (f := .free "isinstance") rfl), He.free_ok X G (c.fact 65 (f := .free "len") rfl), He.free_ok X G (c.fact 66 (f := .free "list") rfl), He.free_ok X G (c.fact 67 (f := .free "max") rfl), He.free_ok X G (c.fact 68 (f := .free "min") rfl), He.free_ok X G (c.fact 69 (f := .free "range") rfl), He.free_ok X G (c.fact 70 (f := .free "repr") rfl), He.free_ok X G (c.fact 71 (f := .free "set") rfl), He.free_ok X G (c.fact 72 (f := .free "sorted") rfl), He.free_ok X G (c.fact 73 (f := .free "sum") rfl), He.free_ok X G (c.fact 74 (f := .free "tuple") rfl), He.free_ok X G (c.fact 60 (f := .free "bool") rfl), He.int_ok X G (c.fact 75 (f := .int "MAX_LEAVES" 9) rfl)⟩
theorem here_bits_of (X : K.In h) (G : h.Ns mainGlobals mg) (c : He.SaysD fas fns K) : Here K mg "bits_of" s_bits_of := (c.def_ 0 (d := d_bits_of) rfl).elim fun fd F => ⟨_, fd, F, He.glo_ok X G (c.fact 0 (f := .glo "bits_of") rfl)⟩
theorem here_lot_of (X : K.In h) (G : h.Ns mainGlobals mg) (c : He.SaysD fas fns K) : Here K mg "lot_of" s_lot_of := (c.def_ 1 (d := d_lot_of) rfl).elim fun fd F => ⟨_, fd, F, He.glo_ok X G (c.fact 1 (f := .glo "lot_of") rfl)⟩
theorem here_lot_key (X : K.In h) (G : h.Ns mainGlobals mg) (c : He.SaysD fas fns K) : Here K mg "lot_key" s_lot_key := (c.def_ 2 (d := d_lot_key) rfl).elim fun fd F => ⟨_, fd, F, He.glo_ok X G (c.fact 2 (f := .glo "lot_key") rfl)⟩
theorem here_bits_key (X : K.In h) (G : h.Ns mainGlobals mg) (c : He.SaysD fas fns K) : Here K mg "bits_key" s_bits_key := (c.def_ 3 (d := d_bits_key) rfl).elim fun fd F => ⟨_, fd, F, He.glo_ok X G (c.fact 3 (f := .glo "bits_key") rfl)⟩
theorem here_ordered_bits (X : K.In h) (G : h.Ns mainGlobals mg) (c : He.SaysD fas fns K) : Here K mg "ordered_bits" s_ordered_bits := (c.def_ 4 (d := d_ordered_bits) rfl).elim fun fd F => ⟨_, fd, F, He.glo_ok X G (c.fact 4 (f := .glo "ordered_bits") rfl)⟩
theorem here_all_bits (X : K.In h) (G : h.Ns mainGlobals mg) (c : He.SaysD fas fns K) : Here K mg "all_bits" s_all_bits := (c.def_ 5 (d := d_all_bits) rfl).elim fun fd F => ⟨_, fd, F, He.glo_ok X G (c.fact 5 (f := .glo "all_bits") rfl)⟩
theorem here_least_leaf (X : K.In h) (G : h.Ns mainGlobals mg) (c : He.SaysD fas fns K) : Here K mg "least_leaf" s_least_leaf := (c.def_ 6 (d := d_least_leaf) rfl).elim fun fd F => ⟨_, fd, F, He.glo_ok X G (c.fact 6 (f := .glo "least_leaf") rfl)⟩
theorem here_is_tip (X : K.In h) (G : h.Ns mainGlobals mg) (c : He.SaysD fas fns K) : Here K mg "is_tip" s_is_tip := (c.def_ 7 (d := d_is_tip) rfl).elim fun fd F => ⟨_, fd, F, He.glo_ok X G (c.fact 7 (f := .glo "is_tip") rfl)⟩
theorem here_in_order (X : K.In h) (G : h.Ns mainGlobals mg) (c : He.SaysD fas fns K) : Here K mg "in_order" s_in_order := (c.def_ 8 (d := d_in_order) rfl).elim fun fd F => ⟨_, fd, F, He.glo_ok X G (c.fact 8 (f := .glo "in_order") rfl)⟩
theorem here_tree_of_bits (X : K.In h) (G : h.Ns mainGlobals mg) (c : He.SaysD fas fns K) : Here K mg "tree_of_bits" s_tree_of_bits := (c.def_ 9 (d := d_tree_of_bits) rfl).elim fun fd F => ⟨_, fd, F, He.glo_ok X G (c.fact 9 (f := .glo "tree_of_bits") rfl)⟩
theorem here_nest_bits (X : K.In h) (G : h.Ns mainGlobals mg) (c : He.SaysD fas fns K) : Here K mg "nest_bits" s_nest_bits := (c.def_ 10 (d := d_nest_bits) rfl).elim fun fd F => ⟨_, fd, F, He.glo_ok X G (c.fact 10 (f := .glo "nest_bits") rfl)⟩
theorem here_parts_of_bits (X : K.In h) (G : h.Ns mainGlobals mg) (c : He.SaysD fas fns K) : Here K mg "parts_of_bits" s_parts_of_bits := (c.def_ 11 (d := d_parts_of_bits) rfl).elim fun fd F => ⟨_, fd, F, He.glo_ok X G (c.fact 11 (f := .glo "parts_of_bits") rfl)⟩
theorem here_fork_bits (X : K.In h) (G : h.Ns mainGlobals mg) (c : He.SaysD fas fns K) : Here K mg "fork_bits" s_fork_bits := (c.def_ 12 (d := d_fork_bits) rfl).elim fun fd F => ⟨_, fd, F, He.glo_ok X G (c.fact 12 (f := .glo "fork_bits") rfl)⟩
theorem here_parts (X : K.In h) (G : h.Ns mainGlobals mg) (c : He.SaysD fas fns K) : Here K mg "parts" s_parts := (c.def_ 13 (d := d_parts) rfl).elim fun fd F => ⟨_, fd, F, He.glo_ok X G (c.fact 13 (f := .glo "parts") rfl)⟩
theorem here_fork (X : K.In h) (G : h.Ns mainGlobals mg) (c : He.SaysD fas fns K) : Here K mg "fork" s_fork := (c.def_ 14 (d := d_fork) rfl).elim fun fd F => ⟨_, fd, F, He.glo_ok X G (c.fact 14 (f := .glo "fork") rfl)⟩
theorem here_bits_at (X : K.In h) (G : h.Ns mainGlobals mg) (c : He.SaysD fas fns K) : Here K mg "bits_at" s_bits_at := (c.def_ 15 (d := d_bits_at) rfl).elim fun fd F => ⟨_, fd, F, He.glo_ok X G (c.fact 15 (f := .glo "bits_at") rfl)⟩
theorem here_at (X : K.In h) (G : h.Ns mainGlobals mg) (c : He.SaysD fas fns K) : Here K mg "at" s_at := (c.def_ 16 (d := d_at) rfl).elim fun fd F => ⟨_, fd, F, He.glo_ok X G (c.fact 16 (f := .glo "at") rfl)⟩
theorem here_without (X : K.In h) (G : h.Ns mainGlobals mg) (c : He.SaysD fas fns K) : Here K mg "without" s_without := (c.def_ 17 (d := d_without) rfl).elim fun fd F => ⟨_, fd, F, He.glo_ok X G (c.fact 17 (f := .glo "without") rfl)⟩
theorem here_need_alike_size (X : K.In h) (G : h.Ns mainGlobals mg) (c : He.SaysD fas fns K) : Here K mg "need_alike_size" s_need_alike_size := (c.def_ 18 (d := d_need_alike_size) rfl).elim fun fd F => ⟨_, fd, F, He.glo_ok X G (c.fact 18 (f := .glo "need_alike_size") rfl)⟩
theorem here_nests_and_tips (X : K.In h) (G : h.Ns mainGlobals mg) (c : He.SaysD fas fns K) : Here K mg "nests_and_tips" s_nests_and_tips := (c.def_ 19 (d := d_nests_and_tips) rfl).elim fun fd F => ⟨_, fd, F, He.glo_ok X G (c.fact 19 (f := .glo "nests_and_tips") rfl)⟩
theorem here_parts_or_none (X : K.In h) (G : h.Ns mainGlobals mg) (c : He.SaysD fas fns K) : Here K mg "parts_or_none" s_parts_or_none := (c.def_ 20 (d := d_parts_or_none) rfl).elim fun fd F => ⟨_, fd, F, He.glo_ok X G (c.fact 20 (f := .glo "parts_or_none") rfl)⟩
theorem here_greatest_sum (X : K.In h) (G : h.Ns mainGlobals mg) (c : He.SaysD fas fns K) : Here K mg "greatest_sum" s_greatest_sum := (c.def_ 21 (d := d_greatest_sum) rfl).elim fun fd F => ⟨_, fd, F, He.glo_ok X G (c.fact 21 (f := .glo "greatest_sum") rfl)⟩
theorem here_pair_number (X : K.In h) (G : h.Ns mainGlobals mg) (c : He.SaysD fas fns K) : Here K mg "pair_number" s_pair_number := (c.def_ 22 (d := d_pair_number) rfl).elim fun fd F => ⟨_, fd, F, He.glo_ok X G (c.fact 22 (f := .glo "pair_number") rfl)⟩
theorem here_table_numbers (X : K.In h) (G : h.Ns mainGlobals mg) (c : He.SaysD fas fns K) : Here K mg "table_numbers" s_table_numbers := (c.def_ 23 (d := d_table_numbers) rfl).elim fun fd F => ⟨_, fd, F, He.glo_ok X G (c.fact 23 (f := .glo "table_numbers") rfl)⟩
theorem here_agreement_table (X : K.In h) (G : h.Ns mainGlobals mg) (c : He.SaysD fas fns K) : Here K mg "agreement_table" s_agreement_table := (c.def_ 24 (d := d_agreement_table) rfl).elim fun fd F => ⟨_, fd, F, He.glo_ok X G (c.fact 24 (f := .glo "agreement_table") rfl)⟩
theorem here_distance (X : K.In h) (G : h.Ns mainGlobals mg) (c : He.SaysD fas fns K) : Here K mg "distance" s_distance := (c.def_ 25 (d := d_distance) rfl).elim fun fd F => ⟨_, fd, F, He.glo_ok X G (c.fact 25 (f := .glo "distance") rfl)⟩
theorem here_is_within (X : K.In h) (G : h.Ns mainGlobals mg) (c : He.SaysD fas fns K) : Here K mg "is_within" s_is_within := (c.def_ 26 (d := d_is_within) rfl).elim fun fd F => ⟨_, fd, F, He.glo_ok X G (c.fact 26 (f := .glo "is_within") rfl)⟩
theorem here_joined (X : K.In h) (G : h.Ns mainGlobals mg) (c : He.SaysD fas fns K) : Here K mg "joined" s_joined := (c.def_ 27 (d := d_joined) rfl).elim fun fd F => ⟨_, fd, F, He.glo_ok X G (c.fact 27 (f := .glo "joined") rfl)⟩
theorem here_less (X : K.In h) (G : h.Ns mainGlobals mg) (c : He.SaysD fas fns K) : Here K mg "less" s_less := (c.def_ 28 (d := d_less) rfl).elim fun fd F => ⟨_, fd, F, He.glo_ok X G (c.fact 28 (f := .glo "less") rfl)⟩
theorem here_stands_in (X : K.In h) (G : h.Ns mainGlobals mg) (c : He.SaysD fas fns K) : Here K mg "stands_in" s_stands_in := (c.def_ 29 (d := d_stands_in) rfl).elim fun fd F => ⟨_, fd, F, He.glo_ok X G (c.fact 29 (f := .glo "stands_in") rfl)⟩
theorem here_with_nests (X : K.In h) (G : h.Ns mainGlobals mg) (c : He.SaysD fas fns K) : Here K mg "with_nests" s_with_nests := (c.def_ 30 (d := d_with_nests) rfl).elim fun fd F => ⟨_, fd, F, He.glo_ok X G (c.fact 30 (f := .glo "with_nests") rfl)⟩
theorem here_put_in (X : K.In h) (G : h.Ns mainGlobals mg) (c : He.SaysD fas fns K) : Here K mg "put_in" s_put_in := (c.def_ 31 (d := d_put_in) rfl).elim fun fd F => ⟨_, fd, F, He.glo_ok X G (c.fact 31 (f := .glo "put_in") rfl)⟩
theorem here_need_forked (X : K.In h) (G : h.Ns mainGlobals mg) (c : He.SaysD fas fns K) : Here K mg "need_forked" s_need_forked := (c.def_ 32 (d := d_need_forked) rfl).elim fun fd F => ⟨_, fd, F, He.glo_ok X G (c.fact 32 (f := .glo "need_forked") rfl)⟩
theorem here_nests_left (X : K.In h) (G : h.Ns mainGlobals mg) (c : He.SaysD fas fns K) : Here K mg "nests_left" s_nests_left := (c.def_ 33 (d := d_nests_left) rfl).elim fun fd F => ⟨_, fd, F, He.glo_ok X G (c.fact 33 (f := .glo "nests_left") rfl)⟩
theorem here_cut_and_put (X : K.In h) (G : h.Ns mainGlobals mg) (c : He.SaysD fas fns K) : Here K mg "cut_and_put" s_cut_and_put := (c.def_ 34 (d := d_cut_and_put) rfl).elim fun fd F => ⟨_, fd, F, He.glo_ok X G (c.fact 34 (f := .glo "cut_and_put") rfl)⟩
theorem here_is_map (X : K.In h) (G : h.Ns mainGlobals mg) (c : He.SaysD fas fns K) : Here K mg "is_map" s_is_map := (c.def_ 35 (d := d_is_map) rfl).elim fun fd F => ⟨_, fd, F, He.glo_ok X G (c.fact 35 (f := .glo "is_map") rfl)⟩
theorem here_renamed (X : K.In h) (G : h.Ns mainGlobals mg) (c : He.SaysD fas fns K) : Here K mg "renamed" s_renamed := (c.def_ 36 (d := d_renamed) rfl).elim fun fd F => ⟨_, fd, F, He.glo_ok X G (c.fact 36 (f := .glo "renamed") rfl)⟩
theorem here__law_store (X : K.In h) (G : h.Ns mainGlobals mg) (c : He.SaysD fas fns K) : Here K mg "_law_store" s__law_store := (c.def_ 37 (d := d__law_store) rfl).elim fun fd F => ⟨_, fd, F, He.glo_ok X G (c.fact 37 (f := .glo "_law_store") rfl)⟩
theorem here__law_draw (X : K.In h) (G : h.Ns mainGlobals mg) (c : He.SaysD fas fns K) : Here K mg "_law_draw" s__law_draw := (c.def_ 38 (d := d__law_draw) rfl).elim fun fd F => ⟨_, fd, F, He.glo_ok X G (c.fact 38 (f := .glo "_law_draw") rfl)⟩
theorem here__law_pick (X : K.In h) (G : h.Ns mainGlobals mg) (c : He.SaysD fas fns K) : Here K mg "_law_pick" s__law_pick := (c.def_ 39 (d := d__law_pick) rfl).elim fun fd F => ⟨_, fd, F, He.glo_ok X G (c.fact 39 (f := .glo "_law_pick") rfl)⟩
theorem here__law_line (X : K.In h) (G : h.Ns mainGlobals mg) (c : He.SaysD fas fns K) : Here K mg "_law_line" s__law_line := (c.def_ 40 (d := d__law_line) rfl).elim fun fd F => ⟨_, fd, F, He.glo_ok X G (c.fact 40 (f := .glo "_law_line") rfl)⟩
theorem here__law_rank (X : K.In h) (G : h.Ns mainGlobals mg) (c : He.SaysD fas fns K) : Here K mg "_law_rank" s__law_rank := (c.def_ 41 (d := d__law_rank) rfl).elim fun fd F => ⟨_, fd, F, He.glo_ok X G (c.fact 41 (f := .glo "_law_rank") rfl)⟩
theorem here__law_tree (X : K.In h) (G : h.Ns mainGlobals mg) (c : He.SaysD fas fns K) : Here K mg "_law_tree" s__law_tree := (c.def_ 42 (d := d__law_tree) rfl).elim fun fd F => ⟨_, fd, F, He.glo_ok X G (c.fact 42 (f := .glo "_law_tree") rfl)⟩
theorem here__law_crosses (X : K.In h) (G : h.Ns mainGlobals mg) (c : He.SaysD fas fns K) : Here K mg "_law_crosses" s__law_crosses := (c.def_ 43 (d := d__law_crosses) rfl).elim fun fd F => ⟨_, fd, F, He.glo_ok X G (c.fact 43 (f := .glo "_law_crosses") rfl)⟩
theorem here__law_named (X : K.In h) (G : h.Ns mainGlobals mg) (c : He.SaysD fas fns K) : Here K mg "_law_named" s__law_named := (c.def_ 44 (d := d__law_named) rfl).elim fun fd F => ⟨_, fd, F, He.glo_ok X G (c.fact 44 (f := .glo "_law_named") rfl)⟩
theorem here__law_some (X : K.In h) (G : h.Ns mainGlobals mg) (c : He.SaysD fas fns K) : Here K mg "_law_some" s__law_some := (c.def_ 45 (d := d__law_some) rfl).elim fun fd F => ⟨_, fd, F, He.glo_ok X G (c.fact 45 (f := .glo "_law_some") rfl)⟩
theorem here__law_near (X : K.In h) (G : h.Ns mainGlobals mg) (c : He.SaysD fas fns K) : Here K mg "_law_near" s__law_near := (c.def_ 46 (d := d__law_near) rfl).elim fun fd F => ⟨_, fd, F, He.glo_ok X G (c.fact 46 (f := .glo "_law_near") rfl)⟩
theorem here__law_world (X : K.In h) (G : h.Ns mainGlobals mg) (c : He.SaysD fas fns K) : Here K mg "_law_world" s__law_world := (c.def_ 47 (d := d__law_world) rfl).elim fun fd F => ⟨_, fd, F, He.glo_ok X G (c.fact 47 (f := .glo "_law_world") rfl)⟩
theorem here__law_lots (X : K.In h) (G : h.Ns mainGlobals mg) (c : He.SaysD fas fns K) : Here K mg "_law_lots" s__law_lots := (c.def_ 48 (d := d__law_lots) rfl).elim fun fd F => ⟨_, fd, F, He.glo_ok X G (c.fact 48 (f := .glo "_law_lots") rfl)⟩
theorem here__law_cut (X : K.In h) (G : h.Ns mainGlobals mg) (c : He.SaysD fas fns K) : Here K mg "_law_cut" s__law_cut := (c.def_ 49 (d := d__law_cut) rfl).elim fun fd F => ⟨_, fd, F, He.glo_ok X G (c.fact 49 (f := .glo "_law_cut") rfl)⟩
theorem here__law_good (X : K.In h) (G : h.Ns mainGlobals mg) (c : He.SaysD fas fns K) : Here K mg "_law_good" s__law_good := (c.def_ 50 (d := d__law_good) rfl).elim fun fd F => ⟨_, fd, F, He.glo_ok X G (c.fact 50 (f := .glo "_law_good") rfl)⟩
theorem here__law_far (X : K.In h) (G : h.Ns mainGlobals mg) (c : He.SaysD fas fns K) : Here K mg "_law_far" s__law_far := (c.def_ 51 (d := d__law_far) rfl).elim fun fd F => ⟨_, fd, F, He.glo_ok X G (c.fact 51 (f := .glo "_law_far") rfl)⟩
theorem here__law_by_three (X : K.In h) (G : h.Ns mainGlobals mg) (c : He.SaysD fas fns K) : Here K mg "_law_by_three" s__law_by_three := (c.def_ 52 (d := d__law_by_three) rfl).elim fun fd F => ⟨_, fd, F, He.glo_ok X G (c.fact 52 (f := .glo "_law_by_three") rfl)⟩
theorem here__law_by_less (X : K.In h) (G : h.Ns mainGlobals mg) (c : He.SaysD fas fns K) : Here K mg "_law_by_less" s__law_by_less := (c.def_ 53 (d := d__law_by_less) rfl).elim fun fd F => ⟨_, fd, F, He.glo_ok X G (c.fact 53 (f := .glo "_law_by_less") rfl)⟩
theorem here__law_by_more (X : K.In h) (G : h.Ns mainGlobals mg) (c : He.SaysD fas fns K) : Here K mg "_law_by_more" s__law_by_more := (c.def_ 54 (d := d__law_by_more) rfl).elim fun fd F => ⟨_, fd, F, He.glo_ok X G (c.fact 54 (f := .glo "_law_by_more") rfl)⟩
theorem here__law_by_parts (X : K.In h) (G : h.Ns mainGlobals mg) (c : He.SaysD fas fns K) : Here K mg "_law_by_parts" s__law_by_parts := (c.def_ 55 (d := d__law_by_parts) rfl).elim fun fd F => ⟨_, fd, F, He.glo_ok X G (c.fact 55 (f := .glo "_law_by_parts") rfl)⟩
theorem here__law_by_cut (X : K.In h) (G : h.Ns mainGlobals mg) (c : He.SaysD fas fns K) : Here K mg "_law_by_cut" s__law_by_cut := (c.def_ 56 (d := d__law_by_cut) rfl).elim fun fd F => ⟨_, fd, F, He.glo_ok X G (c.fact 56 (f := .glo "_law_by_cut") rfl)⟩
theorem here__law_by_names (X : K.In h) (G : h.Ns mainGlobals mg) (c : He.SaysD fas fns K) : Here K mg "_law_by_names" s__law_by_names := (c.def_ 57 (d := d__law_by_names) rfl).elim fun fd F => ⟨_, fd, F, He.glo_ok X G (c.fact 57 (f := .glo "_law_by_names") rfl)⟩
theorem here_law (X : K.In h) (G : h.Ns mainGlobals mg) (c : He.SaysD fas fns K) : Here K mg "law" s_law := (c.def_ 58 (d := d_law) rfl).elim fun fd F => ⟨_, fd, F, He.glo_ok X G (c.fact 58 (f := .glo "law") rfl)⟩
theorem all_ok (X : K.In h) (G : h.Ns mainGlobals mg) (c : He.SaysD fas fns K) : Ok P w K mg base 11 "law" ["_law_script"] (sp_law K) := by
  have bs := bs_of X G c
  have h__law_draw := ok__law_draw (P := P) (w := w) (base := base) (here__law_draw X G c) bs 
  have h__law_line := ok__law_line (P := P) (w := w) (base := base) (here__law_line X G c) bs h__law_draw
  have h__law_rank := ok__law_rank (P := P) (w := w) (base := base) (here__law_rank X G c) bs 
  have h__law_tree := ok__law_tree (P := P) (w := w) (base := base) (here__law_tree X G c) bs h__law_draw h__law_rank
  have h_is_within := ok_is_within (P := P) (w := w) (base := base) (here_is_within X G c) bs 
  have h_joined := ok_joined (P := P) (w := w) (base := base) (here_joined X G c) bs 
  have h_bits_of := ok_bits_of (P := P) (w := w) (base := base) (here_bits_of X G c) bs 
  have h_lot_of := ok_lot_of (P := P) (w := w) (base := base) (here_lot_of X G c) bs 
  have h_nest_bits := ok_nest_bits (P := P) (w := w) (base := base) (here_nest_bits X G c) bs h_bits_of
  have h_least_leaf := ok_least_leaf (P := P) (w := w) (base := base) (here_least_leaf X G c) bs 
  have h_parts_of_bits := ok_parts_of_bits (P := P) (w := w) (base := base) (here_parts_of_bits X G c) bs h_least_leaf h_lot_of
  have h_parts := ok_parts (P := P) (w := w) (base := base) (here_parts X G c) bs h_bits_of h_lot_of h_nest_bits h_parts_of_bits
  have h_need_forked := ok_need_forked (P := P) (w := w) (base := base) (here_need_forked X G c) bs h_parts
  have h_less := ok_less (P := P) (w := w) (base := base) (here_less X G c) bs 
  have h_nests_left := ok_nests_left (P := P) (w := w) (base := base) (here_nests_left X G c) bs h_less
  have h_stands_in := ok_stands_in (P := P) (w := w) (base := base) (here_stands_in X G c) bs 
  have h_lot_key := ok_lot_key (P := P) (w := w) (base := base) (here_lot_key X G c) bs 
  have h_in_order := ok_in_order (P := P) (w := w) (base := base) (here_in_order X G c) bs h_lot_key
  have h_with_nests := ok_with_nests (P := P) (w := w) (base := base) (here_with_nests X G c) bs h_in_order
  have h_cut_and_put := ok_cut_and_put (P := P) (w := w) (base := base) (here_cut_and_put X G c) bs h_is_within h_joined h_need_forked h_nests_left h_stands_in h_with_nests
  have h_need_alike_size := ok_need_alike_size (P := P) (w := w) (base := base) (here_need_alike_size X G c) bs 
  have h_nests_and_tips := ok_nests_and_tips (P := P) (w := w) (base := base) (here_nests_and_tips X G c) bs h_in_order
  have h_greatest_sum := ok_greatest_sum (P := P) (w := w) (base := base) (here_greatest_sum X G c) bs 
  have h_pair_number := ok_pair_number (P := P) (w := w) (base := base) (here_pair_number X G c) bs h_greatest_sum
  have h_parts_or_none := ok_parts_or_none (P := P) (w := w) (base := base) (here_parts_or_none X G c) bs h_parts
  have h_table_numbers := ok_table_numbers (P := P) (w := w) (base := base) (here_table_numbers X G c) bs h_nests_and_tips h_pair_number h_parts_or_none
  have h_agreement_table := ok_agreement_table (P := P) (w := w) (base := base) (here_agreement_table X G c) bs h_need_alike_size h_table_numbers
  have x_distance := okX_distance (P := P) (w := w) (base := base) (here_distance X G c) bs h_agreement_table
  have h_distance := x_distance.ok
  have h__law_by_cut := ok__law_by_cut (P := P) (w := w) (base := base) (here__law_by_cut X G c) bs h__law_line h__law_tree h_cut_and_put h_distance
  have h_all_bits := ok_all_bits (P := P) (w := w) (base := base) (here_all_bits X G c) bs 
  have h_bits_at := ok_bits_at (P := P) (w := w) (base := base) (here_bits_at X G c) bs 
  have h_is_tip := ok_is_tip (P := P) (w := w) (base := base) (here_is_tip X G c) bs 
  have h_bits_key := ok_bits_key (P := P) (w := w) (base := base) (here_bits_key X G c) bs h_lot_key h_lot_of
  have h_ordered_bits := ok_ordered_bits (P := P) (w := w) (base := base) (here_ordered_bits X G c) bs h_bits_key
  have h_tree_of_bits := ok_tree_of_bits (P := P) (w := w) (base := base) (here_tree_of_bits X G c) bs h_all_bits h_lot_of h_ordered_bits
  have h_at := ok_at (P := P) (w := w) (base := base) (here_at X G c) bs h_bits_at h_is_tip h_nest_bits h_tree_of_bits
  have h_without := ok_without (P := P) (w := w) (base := base) (here_without X G c) bs h_all_bits h_at h_lot_of
  have h__law_by_less := ok__law_by_less (P := P) (w := w) (base := base) (here__law_by_less X G c) bs h__law_draw h_distance h_without
  have h__law_pick := ok__law_pick (P := P) (w := w) (base := base) (here__law_pick X G c) bs h__law_draw
  have h__law_some := ok__law_some (P := P) (w := w) (base := base) (here__law_some X G c) bs h__law_draw h__law_line
  have h_fork_bits := ok_fork_bits (P := P) (w := w) (base := base) (here_fork_bits X G c) bs h_is_tip
  have h_fork := ok_fork (P := P) (w := w) (base := base) (here_fork X G c) bs h_bits_of h_fork_bits h_lot_of h_nest_bits
  have h_put_in := ok_put_in (P := P) (w := w) (base := base) (here_put_in X G c) bs h_fork h_is_within h_stands_in h_with_nests
  have h__law_by_more := ok__law_by_more (P := P) (w := w) (base := base) (here__law_by_more X G c) bs h__law_pick h__law_some h_distance h_put_in
  have h__law_named := ok__law_named (P := P) (w := w) (base := base) (here__law_named X G c) bs h__law_rank
  have h_is_map := ok_is_map (P := P) (w := w) (base := base) (here_is_map X G c) bs 
  have h_renamed := ok_renamed (P := P) (w := w) (base := base) (here_renamed X G c) bs h_in_order h_is_map
  have h__law_by_names := ok__law_by_names (P := P) (w := w) (base := base) (here__law_by_names X G c) bs h__law_line h__law_named h_distance h_renamed
  have h__law_by_parts := ok__law_by_parts (P := P) (w := w) (base := base) (here__law_by_parts X G c) bs h_distance h_parts
  have h__law_cut := ok__law_cut (P := P) (w := w) (base := base) (here__law_cut X G c) bs h__law_rank
  have h__law_good := ok__law_good (P := P) (w := w) (base := base) (here__law_good X G c) bs h__law_cut
  have h__law_lots := ok__law_lots (P := P) (w := w) (base := base) (here__law_lots X G c) bs h__law_rank
  have h__law_far := ok__law_far (P := P) (w := w) (base := base) (here__law_far X G c) bs h__law_good h__law_lots
  have h__law_by_three := ok__law_by_three (P := P) (w := w) (base := base) (here__law_by_three X G c) bs h__law_far x_distance
  have h__law_store := ok__law_store (P := P) (w := w) (base := base) (here__law_store X G c) bs 
  have h__law_crosses := ok__law_crosses (P := P) (w := w) (base := base) (here__law_crosses X G c) bs 
  have h__law_near := ok__law_near (P := P) (w := w) (base := base) (here__law_near X G c) bs h__law_crosses h__law_draw h__law_named h__law_rank h__law_some
  have h__law_world := ok__law_world (P := P) (w := w) (base := base) (here__law_world X G c) bs h__law_draw h__law_near h__law_pick h__law_tree
  have h_law := ok_law (P := P) (w := w) (base := base) (here_law X G c) bs h__law_by_cut h__law_by_less h__law_by_more h__law_by_names h__law_by_parts h__law_by_three h__law_draw h__law_far h__law_pick h__law_store h__law_world h_distance
  exact h_law
end
end Fk
open PySem PySem.W PySem.Calls PyProof.Rows
theorem PySem.Challenge.cw_forktold_k55_whole_distance_holds : PySem.Challenge.rw_forktold_k55_whole_distance.Holds := by
  w_on; o_law
  refine HandSHeadRun.head_any (r := OpenLaw.row PySem.Challenge.rw_forktold_k55_whole_distance) (q := view (OpenLaw.row PySem.Challenge.rw_forktold_k55_whole_distance).prog [74]) (H := Fk.hk) (ob := Fk.ob) (M := 30000) (loose := Fk.loose) (d := HandSHeadRun.topDef (OpenLaw.row PySem.Challenge.rw_forktold_k55_whole_distance).prog 74) (kwd := []) Fk.ob_eq
    (by kernel_rfl) (fun s => by kernel_rfl) Fk.run (by kernel_rfl) (by kernel_rfl) (by kernel_rfl) (by rfl) (by first | assumption | decide +kernel) (by decide +kernel) ⟨rfl, rfl, rfl, rfl, rfl, by decide +kernel⟩ ?hw ?hc
  case hw => w_witness2
  case hc =>
    refine Fk.walkG (ll := PySem.Challenge.rw_forktold_k55_whole_distance) (n := 63) (k := 11) (x := "_law_script") rfl (by decide) (by kernel_rfl) ⟨rfl, by decide, by decide⟩ ?F
    intro w mg h Y G
    obtain ⟨K, KX, c⟩ := Y
    have e : (HandSHeadRun.topDef (OpenLaw.row PySem.Challenge.rw_forktold_k55_whole_distance).prog 74).name = ("law" : PySem.Str) := by kernel_rfl
    refine ⟨K, Fk.sp_law K, KX, fun T l zs _ _ S => ⟨l, zs, rfl, S, fun _ _ => rfl⟩, fun base X2 G2 => ?_⟩
    rw [e]
    exact Fk.all_ok KX G c
