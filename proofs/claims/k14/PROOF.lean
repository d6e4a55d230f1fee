import PyProof.Rows.All
import Wide.All
import OpenK.AllK
import Wide.FinOn
import KE.KStateDown
import Lean
import HandS.ForMost
import HandS.More
import HandS.WordsExc
import HandS.Defaults
import HandS.Head0
import HandS.Head1
import HandS.Head2
import HandS.HeadEnd
import HandS.HeadHook1
import HandS.HeadHook2
import HandS.Flow
import HandS.Style
import HandS.TupAny
import HandS.TupLe
import HandS.Deep
import HandS.TupMul
import HandS.Words
import PySem.Challenge.RW_beyondall_k14_whole_rows_down_by_many_ro
set_option linter.all false
set_option Elab.async false
set_option maxRecDepth 100000
set_option maxHeartbeats 0
namespace K14
open PySem PySem.Spec PyProof.Rows L2
def top (i : Nat) : Stmt := PySem.Challenge.pw_beyondall_k14_whole_rows_down_by_many_ro.main.body.getD i (.Pass ⟨0, 0, 0, 0⟩)
def fn : List He.DefD := [
  ⟨("is_whole", none), "is_whole", "is_whole", defArgs (top 6), defBody (top 6), defScope (top 6), [], []⟩,
  ⟨("integer", none), "integer", "integer", defArgs (top 7), defBody (top 7), defScope (top 7), [], []⟩,
  ⟨("term", none), "term", "term", defArgs (top 8), defBody (top 8), defScope (top 8), [], []⟩,
  ⟨("compared", none), "compared", "compared", defArgs (top 9), defBody (top 9), defScope (top 9), [], []⟩,
  ⟨("ascending", none), "ascending", "ascending", defArgs (top 10), defBody (top 10), defScope (top 10), [], []⟩,
  ⟨("is_next", none), "is_next", "is_next", defArgs (top 11), defBody (top 11), defScope (top 11), [], []⟩,
  ⟨("is_limit", none), "is_limit", "is_limit", defArgs (top 12), defBody (top 12), defScope (top 12), [], []⟩,
  ⟨("before", none), "before", "before", defArgs (top 13), defBody (top 13), defScope (top 13), [], []⟩,
  ⟨("depth", none), "depth", "depth", defArgs (top 14), defBody (top 14), defScope (top 14), [], []⟩,
  ⟨("many_terms", none), "many_terms", "many_terms", defArgs (top 15), defBody (top 15), defScope (top 15), [], []⟩,
  ⟨("bounded", none), "bounded", "bounded", defArgs (top 16), defBody (top 16), defScope (top 16), [], []⟩,
  ⟨("under", none), "under", "under", defArgs (top 20), defBody (top 20), defScope (top 20), [], []⟩,
  ⟨("below", none), "below", "below", defArgs (top 21), defBody (top 21), defScope (top 21), [], []⟩,
  ⟨("row_down", none), "row_down", "row_down", defArgs (top 22), defBody (top 22), defScope (top 22), [], []⟩,
  ⟨("long_down", none), "long_down", "long_down", defArgs (top 23), defBody (top 23), defScope (top 23), [], []⟩,
  ⟨("steps_of", none), "steps_of", "steps_of", defArgs (top 24), defBody (top 24), defScope (top 24), [], []⟩,
  ⟨("in_base", none), "in_base", "in_base", defArgs (top 25), defBody (top 25), defScope (top 25), [], []⟩,
  ⟨("from_base", none), "from_base", "from_base", defArgs (top 26), defBody (top 26), defScope (top 26), [], []⟩,
  ⟨("raised", none), "raised", "raised", defArgs (top 27), defBody (top 27), defScope (top 27), [], []⟩,
  ⟨("put_on", none), "put_on", "put_on", defArgs (top 28), defBody (top 28), defScope (top 28), [], []⟩,
  ⟨("endless_base", none), "endless_base", "endless_base", defArgs (top 29), defBody (top 29), defScope (top 29), [], []⟩,
  ⟨("told_number", none), "told_number", "told_number", defArgs (top 30), defBody (top 30), defScope (top 30), [], []⟩,
  ⟨("growing", none), "growing", "growing", defArgs (top 31), defBody (top 31), defScope (top 31), [], []⟩,
  ⟨("growing_below", none), "growing_below", "growing_below", defArgs (top 32), defBody (top 32), defScope (top 32), [], []⟩,
  ⟨("is_falling", none), "is_falling", "is_falling", defArgs (top 33), defBody (top 33), defScope (top 33), [], []⟩,
  ⟨("grown", none), "grown", "grown", defArgs (top 34), defBody (top 34), defScope (top 34), [], []⟩,
  ⟨("plus", none), "plus", "plus", defArgs (top 36), defBody (top 36), defScope (top 36), [], []⟩,
  ⟨("by_rounds", none), "by_rounds", "by_rounds", defArgs (top 41), defBody (top 41), defScope (top 41), [], []⟩,
  ⟨("by_steps", none), "by_steps", "by_steps", defArgs (top 42), defBody (top 42), defScope (top 42), [], []⟩,
  ⟨("fits_behind", none), "fits_behind", "fits_behind", defArgs (top 43), defBody (top 43), defScope (top 43), [], []⟩,
  ⟨("in_turn", none), "in_turn", "in_turn", defArgs (top 44), defBody (top 44), defScope (top 44), [], []⟩,
  ⟨("together", none), "together", "together", defArgs (top 45), defBody (top 45), defScope (top 45), [], []⟩,
  ⟨("power_steps", none), "power_steps", "power_steps", defArgs (top 46), defBody (top 46), defScope (top 46), [], []⟩,
  ⟨("slow", none), "slow", "slow", defArgs (top 47), defBody (top 47), defScope (top 47), [], []⟩,
  ⟨("natural_plus", none), "natural_plus", "natural_plus", defArgs (top 49), defBody (top 49), defScope (top 49), [], []⟩,
  ⟨("natural_total", none), "natural_total", "natural_total", defArgs (top 50), defBody (top 50), defScope (top 50), [], []⟩,
  ⟨("many_places", none), "many_places", "many_places", defArgs (top 54), defBody (top 54), defScope (top 54), [], []⟩,
  ⟨("number_of", none), "number_of", "number_of", defArgs (top 55), defBody (top 55), defScope (top 55), [], []⟩,
  ⟨("tree_of", none), "tree_of", "tree_of", defArgs (top 56), defBody (top 56), defScope (top 56), [], []⟩,
  ⟨("heads", none), "heads", "heads", defArgs (top 57), defBody (top 57), defScope (top 57), [], []⟩,
  ⟨("branch_at", none), "branch_at", "branch_at", defArgs (top 58), defBody (top 58), defScope (top 58), [], []⟩,
  ⟨("put", none), "put", "put", defArgs (top 59), defBody (top 59), defScope (top 59), [], []⟩,
  ⟨("cut", none), "cut", "cut", defArgs (top 60), defBody (top 60), defScope (top 60), [], []⟩,
  ⟨("all_cuts", none), "all_cuts", "all_cuts", defArgs (top 61), defBody (top 61), defScope (top 61), [], []⟩,
  ⟨("falls", none), "falls", "falls", defArgs (top 62), defBody (top 62), defScope (top 62), [], []⟩,
  ⟨("first_way", none), "first_way", "first_way", defArgs (top 63), defBody (top 63), defScope (top 63), [], []⟩,
  ⟨("low_way", none), "low_way", "low_way", defArgs (top 64), defBody (top 64), defScope (top 64), [], []⟩,
  ⟨("high_way", none), "high_way", "high_way", defArgs (top 65), defBody (top 65), defScope (top 65), [], []⟩,
  ⟨("battle", none), "battle", "battle", defArgs (top 66), defBody (top 66), defScope (top 66), [], []⟩,
  ⟨("least_cut", none), "least_cut", "least_cut", defArgs (top 67), defBody (top 67), defScope (top 67), [], []⟩,
  ⟨("greatest_count", none), "greatest_count", "greatest_count", defArgs (top 69), defBody (top 69), defScope (top 69), [], []⟩,
  ⟨("value_at", none), "value_at", "value_at", defArgs (top 70), defBody (top 70), defScope (top 70), [], []⟩,
  ⟨("from_value", none), "from_value", "from_value", defArgs (top 71), defBody (top 71), defScope (top 71), [], []⟩,
  ⟨("is_told_by", none), "is_told_by", "is_told_by", defArgs (top 72), defBody (top 72), defScope (top 72), [], []⟩,
  ⟨("_law_take", none), "_law_take", "_law_take", defArgs (top 75), defBody (top 75), defScope (top 75), [], []⟩,
  ⟨("_law_pick", none), "_law_pick", "_law_pick", defArgs (top 76), defBody (top 76), defScope (top 76), [], []⟩,
  ⟨("_law_cmp", none), "_law_cmp", "_law_cmp", defArgs (top 77), defBody (top 77), defScope (top 77), [], []⟩,
  ⟨("_law_whole", none), "_law_whole", "_law_whole", defArgs (top 78), defBody (top 78), defScope (top 78), [], []⟩,
  ⟨("_law_plus", none), "_law_plus", "_law_plus", defArgs (top 80), defBody (top 80), defScope (top 80), [], []⟩,
  ⟨("_law_digits", none), "_law_digits", "_law_digits", defArgs (top 83), defBody (top 83), defScope (top 83), [], []⟩,
  ⟨("_law_value", none), "_law_value", "_law_value", defArgs (top 84), defBody (top 84), defScope (top 84), [], []⟩,
  ⟨("_law_below", none), "_law_below", "_law_below", defArgs (top 85), defBody (top 85), defScope (top 85), [], []⟩,
  ⟨("_law_bases", none), "_law_bases", "_law_bases", defArgs (top 86), defBody (top 86), defScope (top 86), [], []⟩,
  ⟨("_law_growing", none), "_law_growing", "_law_growing", defArgs (top 87), defBody (top 87), defScope (top 87), [], []⟩,
  ⟨("_law_steps", none), "_law_steps", "_law_steps", defArgs (top 88), defBody (top 88), defScope (top 88), [], []⟩,
  ⟨("_law_grown", none), "_law_grown", "_law_grown", defArgs (top 89), defBody (top 89), defScope (top 89), [], []⟩,
  ⟨("_law_cuts", none), "_law_cuts", "_law_cuts", defArgs (top 90), defBody (top 90), defScope (top 90), [], []⟩,
  ⟨("_law_state", none), "_law_state", "_law_state", defArgs (top 74), defBody (top 74), defScope (top 74), [], []⟩,
  ⟨("law", none), "law", "law", defArgs (top 91), defBody (top 91), defScope (top 91), [], []⟩,
  ⟨("Rounds", some "__init__"), "__init__", "Rounds.__init__", defArgs (L2.inClass (top 40) 0), defBody (L2.inClass (top 40) 0), defScope (L2.inClass (top 40) 0), [], []⟩,
  ⟨("Rounds", some "value"), "value", "Rounds.value", defArgs (L2.inClass (top 40) 1), defBody (L2.inClass (top 40) 1), defScope (L2.inClass (top 40) 1), [], []⟩]
def fa : List He.Fa := [
  .glo "is_whole", .glo "integer", .glo "term", .glo "compared", .glo "ascending", .glo "is_next", .glo "is_limit", .glo "before", .glo "depth", .glo "many_terms", .glo "bounded", .glo "under", .glo "below", .glo "row_down", .glo "long_down", .glo "steps_of", .glo "in_base", .glo "from_base", .glo "raised", .glo "put_on", .glo "endless_base", .glo "told_number", .glo "growing", .glo "growing_below", .glo "is_falling", .glo "grown", .glo "plus", .glo "by_rounds", .glo "by_steps", .glo "fits_behind", .glo "in_turn", .glo "together", .glo "power_steps", .glo "slow", .glo "natural_plus", .glo "natural_total", .glo "many_places", .glo "number_of", .glo "tree_of", .glo "heads", .glo "branch_at", .glo "put", .glo "cut", .glo "all_cuts", .glo "falls", .glo "first_way", .glo "low_way", .glo "high_way", .glo "battle", .glo "least_cut", .glo "greatest_count", .glo "value_at", .glo "from_value", .glo "is_told_by", .glo "_law_take", .glo "_law_pick", .glo "_law_cmp", .glo "_law_whole", .glo "_law_plus", .glo "_law_digits", .glo "_law_value", .glo "_law_below", .glo "_law_bases", .glo "_law_growing", .glo "_law_steps", .glo "_law_grown", .glo "_law_cuts", .glo "_law_state", .glo "law", .int "MOST_SIZE" 2000, .int "MOST_STEPS" 5000, .int "MOST_INTEGER" 1000000000000000000000000000000, .int "MOST_VALUE" 1000000, .int "MOST_CALLS" 20000, .int "MOST_PLACES" 400, .int "MOST_CUTS" 2000, .free "len", .free "sum", .free "max", .free "min", .free "abs", .free "int", .free "tuple", .free "list", .free "all", .free "any", .free "range", .glo "Rounds", .cls "Rounds", .noat "Rounds" "_calls", .meth "Rounds" "value", .mkr "Rounds"]
abbrev R : PySem.W.OpenRow := PySem.W.OpenLaw.row PySem.Challenge.rw_beyondall_k14_whole_rows_down_by_many_ro
abbrev hk : PySem.W.Hook := He.hookD 5 fa fn
def ob (s : PySem.W.SharedT) : He.AlD := He.obsDG 5 fa fn (HandSHeadRun.getT s)
theorem ob_eq (s : PySem.W.SharedT) : ob s = hk.obs s.abs := He.obsDG_eq (HandSHeadRun.getT_eq s)
def loose0 : List PySem.Str := ["Wrong", "Great", "Misstep", "MOST_SIZE", "is_whole", "integer", "term", "compared", "ascending", "is_next", "is_limit", "before", "depth", "many_terms", "bounded", "MOST_STEPS", "MOST_INTEGER", "under", "below", "row_down", "long_down", "steps_of", "in_base", "from_base", "raised", "put_on", "endless_base", "told_number", "growing", "growing_below"]
def loose1 : List PySem.Str := ["is_falling", "grown", "plus", "MOST_VALUE", "MOST_CALLS", "Rounds", "by_rounds", "by_steps", "fits_behind", "in_turn", "together", "power_steps", "slow", "natural_plus", "natural_total", "MOST_PLACES", "MOST_CUTS", "many_places", "number_of", "tree_of", "heads", "branch_at", "put", "cut", "all_cuts", "falls", "first_way", "low_way", "high_way", "battle"]
def loose2 : List PySem.Str := ["least_cut", "greatest_count", "value_at", "from_value", "is_told_by", "_law_state", "_law_take", "_law_pick", "_law_cmp", "_law_whole", "_law_drawn", "_law_plus", "_law_times", "_law_natural", "_law_digits", "_law_value", "_law_below", "_law_bases", "_law_growing", "_law_steps", "_law_grown", "_law_cuts"]
def loose : List PySem.Str := loose0 ++ loose1 ++ loose2
theorem head_run (w : World) : HandSHeadRun.RunEq R (PySem.W.view R.prog [91]) hk ob 4000 loose w := by
  intro os
  kernel_rfl
def lawAt : Nat := 91
end K14

/-! EvR: a tuple read backwards. -/
namespace Ev
open PySem PySem.Spec PyProof.Rows L2 HT
section
variable {prog : Program} {w : World} {A : Around} {E : Value → Shared → Prop} {s : Shared}
theorem sliced_rev {sl : Addr} {n : Nat} {Q : Int × Int × Nat → Shared → Prop} {vs : Value} (hs : s.heap.IsSliceOf sl .none .none vs) (ps : IsPart vs (some (-1)))
    (h : Q ((n : Int) - 1, -1, n) s) : wpAny (model prog w) A (Builtin.Slice.sliceApplied (.ref sl) (pure (n : Int))) Q E s := by
  obtain ⟨os, hos, hcs, hds⟩ := id hs
  unfold Builtin.Slice.sliceApplied Builtin.Slice.sliceFields
  refine wpAny_bind (wpAny_bind (wpAny_field hos hds (x := .none) rfl (wpAny_bind (wpAny_field hos hds (x := .none) rfl (wpAny_bind (wpAny_field hos hds (x := vs) rfl (wpAny_pure ?_)))))))
  refine wpAny_bind (slicePart_ ps ?_)
  show wpAny _ _ (if ((-1 : Int) == 0) = true then _ else _) _ _ s
  rw [if_neg (by decide)]
  refine wpAny_bind (slicePart_none (wpAny_bind (slicePart_none (wpAny_bind (wpAny_pure ?_)))))
  show wpAny _ _ (pure ((n : Int) - 1, (-1 : Int), Builtin.Slice.slicePlaces ((n : Int) - 1) (-1) (-1))) _ _ s
  have e : Builtin.Slice.slicePlaces ((n : Int) - 1) (-1) (-1) = n := by
    unfold Builtin.Slice.slicePlaces
    rw [if_neg (by decide)]
    by_cases hn : (n : Int) - 1 > -1
    · rw [if_pos hn]
      have : ((n : Int) - 1 - -1 - 1) / (- -1) = (n : Int) - 1 := by
        rw [show (- -1 : Int) = 1 by decide, Int.ediv_one]
        omega
      rw [this]
      omega
    · rw [if_neg hn]
      omega
  rw [e]
  exact wpAny_pure h
theorem pick_rev (xs : Array Value) : ((List.range xs.size).filterMap fun (m : Nat) => xs[(((xs.size : Int) - 1) + (m : Int) * (-1)).toNat]?).toArray = xs.toList.reverse.toArray := by
  have e : (fun (m : Nat) => xs[(((xs.size : Int) - 1) + (m : Int) * (-1)).toNat]?) = (fun k => xs[k]?) ∘ fun m => xs.size - 1 - m := by
    funext m
    show xs[_]? = xs[_]?
    have : (((xs.size : Int) - 1) + (m : Int) * (-1)).toNat = xs.size - 1 - m := by omega
    rw [this]
  rw [e, ← List.filterMap_map, PySem.W.krv_range, List.filterMap_reverse, PySem.W.krv_all]
theorem getItem_tuple_rev {t sl : Addr} {items : Array Value} {vs : Value} {Q : Value → Shared → Prop} (ht : IsTup s.heap t items) (hs : s.heap.IsSliceOf sl .none .none vs) (ps : IsPart vs (some (-1)))
    (h : Q (.ref s.heap.objs.size) { s with heap := s.heap.push { cls := .type "tuple", data := .seq items.toList.reverse.toArray } })
    (hsz : items.size ≤ sizeLine) : wpAny (model prog w) A (getItem (.ref t) (.ref sl)) Q E s := by
  have htake : sizeOk (.seq items.toList.reverse.toArray) := by
    show items.toList.reverse.toArray.size ≤ sizeLine
    rw [List.size_toArray, List.length_reverse, Array.length_toList]
    omega
  obtain ⟨os, hos, hcs, hds⟩ := id hs
  have hTs : s.TypeIs (.ref sl) "slice" := ⟨os, hos, hcs⟩
  unfold getItem
  try with_reducible refine wpAny_holding ?_
  first | refine wpAny_bind (wpAny_pure ?_) | skip
  refine wpAny_bind (wpAny_sequenceKey ht.typeIs (by decide) ?_)
  refine wpAny_bind (wpAny_callSpecial?_slot (name := Str.ofString "__getitem__") ht.typeIs PyProof.Rows.slot_tuple_getitem
    (wpAny_call_entry PyProof.Rows.slot_tuple_getitem ht.typeIs entry_tuple_getitem ?_ (args_tuple_getitem _ _)))
  show wpAny _ _ (Builtin.Tuple.tupleItemsOf (.ref t) >>= _) _ _ s
  refine wpAny_bind (tupleItemsOf_ ht ?_)
  refine wpAny_bind (wpAny_typeOf hTs ?_)
  rw [if_pos (by decide)]
  refine wpAny_bind (sliced_rev hs ps ?_)
  have hno : ¬ ((((items.size : Int) - 1) == 0 && (-1 : Int) == 1 && items.size == items.size) = true) := by
    intro q
    rw [Bool.and_eq_true, Bool.and_eq_true] at q
    have q1 := q.1.2
    exact absurd q1 (by decide)
  show wpAny _ _ (if (((items.size : Int) - 1) == 0 && (-1 : Int) == 1 && items.size == items.size) = true then _ else _) _ _ s
  rw [if_neg hno, pick_rev]
  first
    | exact wpAny_bind (m := Builtin.Tuple.tupleExact _) (wpAny_newObj_type (wpAny_pure ⟨_, rfl, wpAny_pure h⟩) htake)
    | exact wpAny_bind (m := Builtin.Tuple.tupleExact _) (wpAny_newObj_type (wpAny_bind (wpAny_pure (wpAny_pure ⟨_, rfl, wpAny_pure h⟩))) htake)
    | exact wpAny_bind (wpAny_bind (m := Builtin.Tuple.tupleExact _) (wpAny_newObj_type (wpAny_pure (wpAny_pure ⟨_, rfl, wpAny_pure h⟩)) htake))
    | exact wpAny_bind (wpAny_bind (m := Builtin.Tuple.tupleExact _) (wpAny_newObj_type (wpAny_pure ⟨_, rfl, wpAny_pure h⟩) htake))
end
section
variable {X : Cx}
/-- backwards: a list, a tuple -/
def tRevA (K : PySem.W.Frag) (te : TE) : TE := fun σ H Q => te σ H fun x H1 => ∃ a xs, x = .ref a ∧ ((SqL K H1 a xs ∧ ∀ p, H1 p = none → Q (.ref p) (upd H1 p (.lst xs.reverse))) ∨ (SqT K H1 a xs ∧ ∀ p, H1 p = none → Q (.ref p) (upd H1 p (.tup xs.reverse))))
theorem pe_revA {e : Expr} {te : TE} {k : Nat} {p1 p2 p3 pos : Pos} (he : PE X e te) : PE X (.Subscript e (.Slice none none (some (.UnaryOp .USub (.Constant (.int 1) k p1) p2)) p3) pos) (tRevA X.K te) := by
  refine ⟨fun pins s σ H Q I h => ?_⟩
  refine Subscript_ (thn (he.run pins s σ H _ I h) fun v s1 ⟨x, H1, I1, r1, q1⟩ => ?_)
  obtain ⟨a, xs, ex, q⟩ := q1
  subst ex
  cases r1
  have hst : PO X (some (.UnaryOp .USub (.Constant (.int 1) k p1) p2)) (tPart (tUn (rU fun i => .int (-i)) (tC (.int 1)))) := po_some (pe_un un_neg pe_int)
  refine wpAny_Slice (thn (po_none.run pins s1 σ H1 (fun o H2 => o = none ∧ H2 = H1) I1 ⟨rfl, rfl⟩) fun vl s2 ⟨l, H2, I2, pl, el, e2⟩ => ?_)
  subst el e2
  refine thn (po_none.run pins s2 σ H2 (fun o H3 => o = none ∧ H3 = H2) I2 ⟨rfl, rfl⟩) fun vu s3 ⟨u, H3, I3, pu, eu, e3⟩ => ?_
  subst eu e3
  refine thn (hst.run pins s3 σ H3 (fun o H4 => o = some (-1) ∧ H4 = H3) I3 ⟨1, rfl, -1, rfl, rfl, rfl⟩) fun vs s4 ⟨o, H4, I4, ps, eo, e4⟩ => ?_
  subst eo e4
  have I5 : Inv X pins σ H4 { s4 with heap := s4.heap.push { cls := .type "slice", data := .fields #[vl, vu, vs] } } := I4.kept (t' := s4.toks) fun b ob q => Heap.get?_push_of_some _ q
  show wpAny (model X.prog X.w) X.A (subscriptTail e (.Slice none none (some (.UnaryOp .USub (.Constant (.int 1) k p1) p2)) p3) (.ref a) (.ref s4.heap.objs.size)) (EP X pins σ Q) X.xe { s4 with heap := s4.heap.push { cls := .type "slice", data := .fields #[vl, vu, vs] } }
  rcases q with ⟨hx, q⟩ | ⟨hx, q⟩
  · obtain ⟨its, r, ht, hz⟩ := I5.list hx
    have hlen := r.length
    refine tail_any (ops := [.ref a, .ref s4.heap.objs.size]) ht.isList.typeIs (PySem.slot_list_getitem.lookup) ?_ (by with_unfolding_all rfl)
    refine wpAny_getItem_list_slice ht.isList (Heap.IsSliceOf.new _ vl vu vs) pl pu ps (by decide) ?_ (by rw [List.size_toArray]; omega)
    rw [PySem.W.krv_pick]
    refine ⟨.ref _, _, I5.laid (t' := s4.toks) (o := .lst xs.reverse) (fun b ob q => Heap.get?_push_of_some _ q) (Nat.le_refl _) ?_, rfl, q _ (I5.hok.fresh (Nat.le_refl _))⟩
    exact ⟨by rw [List.length_reverse]; exact hz, _, 0, r.reverse, Heap.get?_push_size _ rfl⟩
  · obtain ⟨its, r, ht, hz⟩ := I5.tuple hx
    have hlen := r.length
    have nl : vl = .none := by cases pl; rfl
    have nu : vu = .none := by cases pu; rfl
    subst nl nu
    refine tail_any (ops := [.ref a, .ref s4.heap.objs.size]) ht.typeIs (PyProof.Rows.slot_tuple_getitem.lookup) ?_ (by with_unfolding_all rfl)
    refine getItem_tuple_rev ht (Heap.IsSliceOf.new _ .none .none vs) ps ?_ (by rw [List.size_toArray]; omega)
    refine ⟨.ref _, _, I5.laid (t' := s4.toks) (o := .tup xs.reverse) (fun b ob q => Heap.get?_push_of_some _ q) (Nat.le_refl _) ?_, rfl, q _ (I5.hok.fresh (Nat.le_refl _))⟩
    exact ⟨by rw [List.length_reverse]; exact hz, _, r.reverse, ⟨_, Heap.get?_push_size _ rfl, rfl, _, rfl⟩⟩
end
end Ev

/-! Ev0: plain data, a small syntax, its evaluator. -/
namespace Ev
open PySem (Str CmpOp)

/-- plain data -/
inductive D where
  | non | bl (b : Bool) | int (i : Int) | str (s : Str) | tup (xs : List D) | lst (xs : List D) | st
/-- what is left of the draws: how many were taken, the cells -/
structure DS where
  n : Int
  cells : List Int

mutual
def D.eqv : D → D → Bool
  | .non, .non => true
  | .bl a, .bl b => a == b
  | .bl a, .int j => (if a then 1 else 0) == j
  | .int i, .bl b => i == (if b then 1 else 0)
  | .int i, .int j => i == j
  | .str x, .str y => x == y
  | .lst xs, .lst ys => D.eqvs xs ys
  | .tup xs, .tup ys => D.eqvs xs ys
  | _, _ => false
def D.eqvs : List D → List D → Bool
  | [], [] => true
  | x :: xs, y :: ys => D.eqv x y && D.eqvs xs ys
  | _, _ => false
end
mutual
/-- the depth is at most n, no token within, no odd text -/
def D.fit : Nat → D → Bool
  | _, .st => false
  | _, .str x => PySem.PyData.strOk x
  | _, .non | _, .bl _ | _, .int _ => true
  | 0, .tup _ | 0, .lst _ => false
  | n + 1, .tup xs | n + 1, .lst xs => D.fits n xs
def D.fits : Nat → List D → Bool
  | _, [] => true
  | n, x :: xs => D.fit n x && D.fits n xs
end
def D.isNon : D → Bool
  | .non => true
  | _ => false
def line : Nat := 16777216

inductive T where
  | nm (i : Nat) | tp (is : List Nat)
inductive BOp where
  | add | sub | mul | fdiv | mod | and | xor | shr | shl
inductive B where
  | len | sum | max | min | abs | int | tuple | list | all | any
inductive E where
  | var (i : Nat) | int (i : Int) | str (s : Str) | bl (b : Bool) | non | gint (j : Nat) (i : Int)
  | tup (es : E) | lst (es : E) | nil | cons (e es : E)
  | bin (op : BOp) (a b : E) | neg (a : E) | not (a : E) | and (a b : E) | or (a b : E)
  | cmp (op : CmpOp) (a b : E) | chn (o p : CmpOp) (a b c : E) | ite (c a b : E)
  | call (f : Nat) (es : E) | blt (f : B) (es : E) | ix (a i : E) | sl (a lo hi : E) | rev (a : E)
  | comp (own : List (Str × Nat)) (tg : T) (it c e : E) | rng (es : E)
inductive S where
  | nil | seq (a b : S) | frz (is : List Nat) (a : S) | asg (tg : T) (e : E) | par (is : List Nat) (es : E) | aug (i : Nat) (neg : Bool) (e : E)
  | setix (i : Nat) (ix e : E) | app (i : Nat) (e : E) | ext (i : Nat) (e : E) | ins (i : Nat) (k e : E)
  | ifS (c : E) (a b : S) | whileS (fz : List Nat) (c : E) (b : S) | forS (tg : T) (it : E) (b : S) | ret (e : E) | brk | cont | bad

inductive Sl where
  | own (ds : List D) | val (d : D)
abbrev EnvD := List (Option Sl)
abbrev R (α : Type) := Option (α × DS)

def truth : D → Option Bool
  | .non => some false
  | .bl b => some b
  | .int i => some (i != 0)
  | .str s => if s.length ≤ line then some ((s.length : Int) != 0) else none
  | .tup xs | .lst xs => some !xs.isEmpty
  | .st => none
def small (i : Int) : Bool := decide (-(2 ^ 64) < i) && decide (i < 2 ^ 64)
def binF : BOp → D → D → Option D
  | .add, .int i, .int j => some (.int (i + j))
  | .add, .tup xs, .tup ys => if xs.length + ys.length ≤ line then some (.tup (xs ++ ys)) else none
  | .add, .lst xs, .lst ys => if xs.length + ys.length ≤ line then some (.lst (xs ++ ys)) else none
  | .sub, .int i, .int j => some (.int (i - j))
  | .mul, .int i, .int j => if small i || small j then some (.int (i * j)) else none
  | .mul, .lst xs, .int k => if k < 2 ^ 63 ∧ -(2 ^ 63) ≤ k ∧ xs.length * k.toNat ≤ line then some (.lst (List.replicate k.toNat xs).flatten) else none
  | .fdiv, .int i, .int j => if 0 < j ∧ j < 1073741824 then some (.int (i / j)) else none
  | .mod, .int i, .int j => if 0 < j then some (.int (i % j)) else none
  | .shr, .int i, .int j => if 0 ≤ j then some (.int (i / 2 ^ j.toNat)) else none
  | .shl, .int i, .int j => if 0 ≤ j ∧ j ≤ 1000000 ∧ small i then some (.int (i * 2 ^ j.toNat)) else none
  | .and, .int i, .int j => some (.int (PySem.Builtin.bitAnd i j))
  | .xor, .int i, .int j => some (.int (PySem.Builtin.bitXor i j))
  | .mul, .tup xs, .int k => if 0 < xs.length ∧ 2 ≤ k ∧ k ≤ 1000 ∧ xs.length ≤ 1000 then some (.tup (List.replicate k.toNat xs).flatten) else none
  | _, _, _ => none
def eqF (a b : D) : Option Bool := if a.fit 60 && b.fit 60 then some (a.eqv b) else none
def inF (a : D) (xs : List D) : Option Bool := if a.fit 60 && D.fits 60 xs then some (xs.any fun z => z.eqv a) else none
def D.flat : D → Bool
  | .non | .bl _ | .int _ | .str _ => true
  | _ => false
def inTF (a : D) (xs : List D) : Option Bool := if a.flat && xs.all D.flat then some (xs.any fun z => z.eqv a) else none
def cmpF : CmpOp → D → D → Option Bool
  | .Lt, .int i, .int j => some (decide (i < j))
  | .LtE, .int i, .int j => some (decide (i ≤ j))
  | .Gt, .int i, .int j => some (decide (j < i))
  | .GtE, .int i, .int j => some (decide (j ≤ i))
  | .Eq, a, b => eqF a b
  | .NotEq, a, b => (eqF a b).map not
  | .Is, .bl a, .bl b => some (decide (a = b))
  | .IsNot, .bl a, .bl b => some (!decide (a = b))
  | .Is, a, .non => some a.isNon
  | .IsNot, a, .non => some !a.isNon
  | .In, a, .lst xs => inF a xs
  | .NotIn, a, .lst xs => (inF a xs).map not
  | .In, a, .tup xs => inTF a xs
  | .NotIn, a, .tup xs => (inTF a xs).map not
  | _, _, _ => none
def allI : List D → Option (List Int)
  | [] => some []
  | .int i :: r => (allI r).map (i :: ·)
  | _ => none
def allB : List D → Option (List Bool)
  | [] => some []
  | .bl i :: r => (allB r).map (i :: ·)
  | _ => none
def maxI (i : Int) (l : List Int) : Int := l.foldl (fun m k => if m < k then k else m) i
def minI (i : Int) (l : List Int) : Int := l.foldl (fun m k => if k < m then k else m) i
def bltF : B → List D → Option D
  | .len, [.tup xs] | .len, [.lst xs] => some (.int xs.length)
  | .sum, [.lst xs] => (allI xs).map fun l => .int l.sum
  | .max, [.lst xs] => match allI xs with | some (i :: l) => some (.int (maxI i l)) | _ => none
  | .min, [.lst xs] => match allI xs with | some (i :: l) => some (.int (minI i l)) | _ => none
  | .max, [.int i, .int j] => some (.int (if j > i then j else i))
  | .min, [.int i, .int j] => some (.int (if j < i then j else i))
  | .abs, [.int i] => some (.int (if i < 0 then -i else i))
  | .int, [.int i] => some (.int i)
  | .int, [.bl b] => some (.int (if b then 1 else 0))
  | .tuple, [.tup xs] | .tuple, [.lst xs] => some (.tup xs)
  | .list, [.tup xs] | .list, [.lst xs] => some (.lst xs)
  | .all, [.lst xs] => (allB xs).map fun l => .bl (l.all id)
  | .any, [.lst xs] => (allB xs).map fun l => .bl (l.any id)
  | _, _ => none
def ixF : D → D → Option D
  | .tup xs, .int i | .lst xs, .int i => L2.atI xs i
  | _, _ => none
def cut {α : Type} (xs : List α) (lo hi : Option Int) : List α := (xs.drop (HT.sIx xs.length 0 lo)).take (HT.sIx xs.length xs.length hi - HT.sIx xs.length 0 lo)
def slF : D → Option Int → Option Int → Option D
  | .tup xs, lo, hi => some (.tup (cut xs lo hi))
  | .lst xs, lo, hi => some (.lst (cut xs lo hi))
  | _, _, _ => none
def revF : D → Option D
  | .lst xs => some (.lst xs.reverse)
  | .tup xs => some (.tup xs.reverse)
  | _ => none
def seqOf : D → Option (List D)
  | .tup xs | .lst xs => some xs
  | _ => none
def setAll : List Nat → List D → EnvD → Option EnvD
  | [], [], ρ => some ρ
  | i :: is, d :: ds, ρ => setAll is ds (ρ.set i (some (.val d)))
  | _, _, _ => none
def asgT : T → D → EnvD → Option EnvD
  | .nm i, d, ρ => some (ρ.set i (some (.val d)))
  | .tp is, .tup ds, ρ => setAll is ds ρ
  | _, _, _ => none
def rngL (lo hi : Int) : List D := (List.range (hi - lo).toNat).map fun (k : Nat) => .int (lo + k)
def rngD (lo hi : Int) : List D := (List.range (lo - hi).toNat).map fun (k : Nat) => .int (lo - k)
def in62 (i : Int) : Bool := decide (-(2 ^ 62) ≤ i) && decide (i < 2 ^ 62)
def rngF : List D → Option (List D)
  | [.int j] => if in62 j then some (rngL 0 j) else none
  | [.int i, .int j] => if in62 i && in62 j then some (rngL i j) else none
  | [.int i, .int j, .int c] => if in62 i && in62 j && c == -1 then some (rngD i j) else none
  | _ => none
def wipeE (ρ : EnvD) : List Nat → EnvD
  | [] => ρ
  | v :: vs => (wipeE ρ vs).set v none
def noOwn (ρ : EnvD) (vs : List Nat) : Bool := vs.all fun v => match ρ[v]? with
  | some (some (.own _)) => false
  | _ => true
/-- a comprehension's turns -/
def compL (f : D → DS → R (Option D)) : List D → List D → DS → R (List D)
  | [], acc, t => some (acc.reverse, t)
  | d :: ds, acc, t => match f d t with
    | some (some y, t') => if acc.length < line then compL f ds (y :: acc) t' else none
    | some (none, t') => compL f ds acc t'
    | none => none

/-- forms that give new lists -/
def E.isNew : E → Bool
  | .lst _ | .bin .. | .blt .. | .sl .. | .rev _ | .comp .. => true
  | _ => false
def E.isNil : E → Bool
  | .nil => true
  | _ => false
/-- an optional part of a slice; a comprehension's test -/
def optP (e : E) (r : R D) (t : DS) : R (Option Int) := match e.isNil with
  | true => some (none, t)
  | false => match r with
    | some (.int i, t) => some (some i, t)
    | _ => none
def tst (r : R D) : R Bool := match r with
  | some (x, t) => match truth x with
    | some k => some (k, t)
    | none => none
  | none => none
def optC (e : E) (r : R D) (t : DS) : R Bool := match e.isNil with
  | true => some (true, t)
  | false => tst r
section
variable (call : Nat → List D → DS → R D)
mutual
def evE : E → Bool → EnvD → DS → R D
  | .var i, b, ρ, t => match ρ[i]? with
    | some (some (.val d)) => some (d, t)
    | some (some (.own ds)) => if b then some (.lst ds, t) else none
    | _ => none
  | .int i, _, _, t => some (.int i, t)
  | .str s, _, _, t => some (.str s, t)
  | .bl k, _, _, t => some (.bl k, t)
  | .non, _, _, t => some (.non, t)
  | .gint _ i, _, _, t => some (.int i, t)
  | .tup es, _, ρ, t => match evEs es false ρ t with
    | some (ds, t) => if ds.length ≤ line then some (.tup ds, t) else none
    | none => none
  | .lst es, _, ρ, t => match evEs es false ρ t with
    | some (ds, t) => if ds.length ≤ line then some (.lst ds, t) else none
    | none => none
  | .bin op a b, _, ρ, t => match evE a true ρ t with
    | some (x, t) => match evE b true ρ t with
      | some (y, t) => match binF op x y with
        | some d => some (d, t)
        | none => none
      | none => none
    | none => none
  | .neg a, _, ρ, t => match evE a true ρ t with
    | some (.int i, t) => some (.int (-i), t)
    | _ => none
  | .not a, _, ρ, t => match evE a true ρ t with
    | some (x, t) => match truth x with
      | some k => some (.bl !k, t)
      | none => none
    | none => none
  | .and a b, m, ρ, t => match evE a m ρ t with
    | some (x, t) => match truth x with
      | some true => evE b m ρ t
      | some false => some (x, t)
      | none => none
    | none => none
  | .or a b, m, ρ, t => match evE a m ρ t with
    | some (x, t) => match truth x with
      | some true => some (x, t)
      | some false => evE b m ρ t
      | none => none
    | none => none
  | .cmp op a b, _, ρ, t => match evE a true ρ t with
    | some (x, t) => match evE b true ρ t with
      | some (y, t) => match cmpF op x y with
        | some k => some (.bl k, t)
        | none => none
      | none => none
    | none => none
  | .chn o p a b c, _, ρ, t => match evE a true ρ t with
    | some (x, t) => match evE b true ρ t with
      | some (y, t) => match cmpF o x y with
        | some true => match evE c true ρ t with
          | some (z, t) => match cmpF p y z with
            | some k => some (.bl k, t)
            | none => none
          | none => none
        | some false => some (.bl false, t)
        | none => none
      | none => none
    | none => none
  | .ite c a b, m, ρ, t => match evE c true ρ t with
    | some (x, t) => match truth x with
      | some true => evE a m ρ t
      | some false => evE b m ρ t
      | none => none
    | none => none
  | .call f es, _, ρ, t => match evEs es false ρ t with
    | some (ds, t) => call f ds t
    | none => none
  | .blt f es, _, ρ, t => match evEs es true ρ t with
    | some (ds, t) => match bltF f ds with
      | some d => some (d, t)
      | none => none
    | none => none
  | .ix a i, _, ρ, t => match evE a true ρ t with
    | some (x, t) => match evE i true ρ t with
      | some (y, t) => match ixF x y with
        | some d => some (d, t)
        | none => none
      | none => none
    | none => none
  | .sl a lo hi, _, ρ, t => match evE a true ρ t with
    | some (x, t) => match optP lo (evE lo true ρ t) t with
      | some (l, t) => match optP hi (evE hi true ρ t) t with
        | some (h, t) => match slF x l h with
          | some d => some (d, t)
          | none => none
        | none => none
      | none => none
    | none => none
  | .rev a, _, ρ, t => match evE a true ρ t with
    | some (x, t) => match revF x with
      | some d => some (d, t)
      | none => none
    | none => none
  | .comp own tg it c e, _, ρ, t => match evE it true ρ t with
    | some (x, t) => match seqOf x with
      | none => none
      | some ds => if noOwn ρ (own.map (·.2)) then match compL (fun d t => match asgT tg d (wipeE ρ (own.map (·.2))) with
        | some ρ' => match optC c (evE c true ρ' t) t with
          | some (true, t) => match evE e false ρ' t with
            | some (y, t) => some (some y, t)
            | none => none
          | some (false, t) => some (none, t)
          | none => none
        | none => none) ds [] t with
      | some (ys, t) => some (.lst ys, t)
      | none => none else none
    | none => none
  | .nil, _, _, _ => none
  | .cons _ _, _, _, _ => none
  | .rng es, _, ρ, t => match evEs es true ρ t with
    | some (ds, t) => match rngF ds with
      | some l => some (.lst l, t)
      | none => none
    | none => none
def evEs : E → Bool → EnvD → DS → R (List D)
  | .nil, _, _, t => some ([], t)
  | .cons e es, b, ρ, t => match evE e b ρ t with
    | some (d, t) => match evEs es b ρ t with
      | some (ds, t) => some (d :: ds, t)
      | none => none
    | none => none
  | _, _, _, _ => none
end
def mkSl : Bool → D → Sl
  | true, .lst l => .own l
  | _, d => .val d
/-- several, new lists our own -/
def evNs : E → EnvD → DS → R (List Sl)
  | .nil, _, t => some ([], t)
  | .cons e es, ρ, t => match evE call e e.isNew ρ t with
    | some (d, t) => match evNs es ρ t with
      | some (ds, t) => some (mkSl e.isNew d :: ds, t)
      | none => none
    | none => none
  | _, _, _ => none
def setN : List Nat → List Sl → EnvD → Option EnvD
  | [], [], ρ => some ρ
  | i :: is, s :: ss, ρ => setN is ss (ρ.set i (some s))
  | _, _, _ => none
inductive Fl where
  | nx (ρ : EnvD) | rt (d : D) | bk (ρ : EnvD) | ct (ρ : EnvD)
def frz1 (ρ : EnvD) (i : Nat) : EnvD := match ρ[i]? with
  | some (some (.own ds)) => ρ.set i (some (.val (.lst ds)))
  | _ => ρ
def frz (ρ : EnvD) : List Nat → EnvD
  | [] => ρ
  | i :: is => frz (frz1 ρ i) is
def forL (f : D → EnvD → DS → R Fl) : List D → EnvD → DS → R Fl
  | [], ρ, t => some (.nx ρ, t)
  | d :: ds, ρ, t => match f d ρ t with
    | some (.nx ρ, t) => forL f ds ρ t
    | some (.ct ρ, t) => forL f ds ρ t
    | some (.bk ρ, t) => some (.nx ρ, t)
    | some (.rt d, t) => some (.rt d, t)
    | none => none
def whileL (c : EnvD → DS → R Bool) (f : EnvD → DS → R Fl) (fz : List Nat) : Nat → EnvD → DS → R Fl
  | 0, _, _ => none
  | n + 1, ρ, t => match c (frz ρ fz) t with
    | some (true, t) => match f (frz ρ fz) t with
      | some (.nx ρ, t) => whileL c f fz n ρ t
      | some (.ct ρ, t) => whileL c f fz n ρ t
      | some (.bk ρ, t) => some (.nx ρ, t)
      | some (.rt d, t) => some (.rt d, t)
      | none => none
    | some (false, t) => some (.nx (frz ρ fz), t)
    | none => none
def ownOf (ρ : EnvD) (i : Nat) : Option (List D) := match ρ[i]? with
  | some (some (.own ds)) => some ds
  | _ => none
def asgV (tg : T) (nw : Bool) (d : D) (ρ : EnvD) : Option EnvD := match tg, nw, d with
  | .nm i, true, .lst ds => some (ρ.set i (some (.own ds)))
  | tg, _, d => asgT tg d ρ
def forF (ex : EnvD → DS → R Fl) (tg : T) (d : D) (ρ : EnvD) (t : DS) : R Fl := match asgT tg d ρ with
  | some ρ => ex ρ t
  | none => none
def exec (W : Nat) : S → EnvD → DS → R Fl
  | .nil, ρ, t => some (.nx ρ, t)
  | .seq a b, ρ, t => match exec W a ρ t with
    | some (.nx ρ, t) => exec W b ρ t
    | r => r
  | .frz is a, ρ, t => exec W a (frz ρ is) t
  | .asg tg e, ρ, t => match evE call e e.isNew ρ t with
    | some (d, t) => match asgV tg e.isNew d ρ with
      | some ρ => some (.nx ρ, t)
      | none => none
    | none => none
  | .par is es, ρ, t => match evNs call es ρ t with
    | some (ss, t) => match setN is ss ρ with
      | some ρ => some (.nx ρ, t)
      | none => none
    | none => none
  | .aug i neg e, ρ, t => match ρ[i]? with
    | some (some (.val (.int x))) => match evE call e true ρ t with
      | some (.int y, t) => some (.nx (ρ.set i (some (.val (.int (if neg then x - y else x + y))))), t)
      | _ => none
    | _ => none
  | .setix i ix e, ρ, t => match evE call e false ρ t with
    | some (d, t) => match ownOf ρ i with
      | some ds => match evE call ix true ρ t with
        | some (.int k, t) => match L2.ixN ds.length k with
          | some j => some (.nx (ρ.set i (some (.own (ds.set j d)))), t)
          | none => none
        | _ => none
      | none => none
    | none => none
  | .app i e, ρ, t => match ownOf ρ i with
    | some ds => match evE call e false ρ t with
      | some (d, t) => if ds.length < line then some (.nx (ρ.set i (some (.own (ds ++ [d])))), t) else none
      | none => none
    | none => none
  | .ext i e, ρ, t => match ownOf ρ i with
    | some ds => match evE call e true ρ t with
      | some (x, t) => match seqOf x with
        | some es => if ds.length + es.length ≤ line then some (.nx (ρ.set i (some (.own (ds ++ es)))), t) else none
        | none => none
      | none => none
    | none => none
  | .ins i k e, ρ, t => match ownOf ρ i with
    | some ds => match evE call k true ρ t with
      | some (.int k, t) => match evE call e false ρ t with
        | some (d, t) => if ds.length < line ∧ 0 ≤ k ∧ k < 2 ^ 63 then some (.nx (ρ.set i (some (.own (ds.take k.toNat ++ [d] ++ ds.drop k.toNat)))), t) else none
        | none => none
      | _ => none
    | none => none
  | .ifS c a b, ρ, t => match tst (evE call c true ρ t) with
    | some (true, t) => exec W a ρ t
    | some (false, t) => exec W b ρ t
    | none => none
  | .whileS fz c b, ρ, t => whileL (fun ρ t => tst (evE call c true ρ t)) (fun ρ t => exec W b ρ t) fz W ρ t
  | .forS tg it b, ρ, t => match evE call it false ρ t with
    | some (x, t) => match seqOf x with
      | some ds => forL (forF (fun ρ t => exec W b ρ t) tg) ds ρ t
      | none => none
    | none => none
  | .ret e, ρ, t => match evE call e false ρ t with
    | some (d, t) => some (.rt d, t)
    | none => none
  | .brk, ρ, t => some (.bk ρ, t)
  | .cont, ρ, t => some (.ct ρ, t)
  | .bad, _, _ => none
end
end Ev

/-! Ev1: what the abstract heap shows of plain data. -/
namespace Ev
open PySem PySem.Spec PyProof.Rows L2

abbrev Sub (G H : Hp) : Prop := ∀ b o, G b = some o → H b = some o
theorem Sub.refl {G : Hp} : Sub G G := fun _ _ e => e
theorem Sub.trans {G H J : Hp} (a : Sub G H) (b : Sub H J) : Sub G J := fun x o e => b x o (a x o e)
theorem Sub.upd {G : Hp} {p : Addr} {o : HO} (n : G p = none) : Sub G (L2.upd G p o) := fun b u e => by
  rw [upd_ne (ne_of_none e n)]; exact e
mutual
/-- the value bears the datum in the public heap -/
def Rep (a0 : Addr) (G : Hp) : D → V → Prop
  | .non, v => v = .non
  | .bl b, v => v = .bl b
  | .int i, v => v = .int i
  | .str s, v => v = .str s
  | .tup ds, v => ∃ a vs, v = .ref a ∧ G a = some (.tup vs) ∧ Reps a0 G ds vs
  | .lst ds, v => ∃ a vs, v = .ref a ∧ G a = some (.lst vs) ∧ Reps a0 G ds vs
  | .st, v => v = .ref a0
def Reps (a0 : Addr) (G : Hp) : List D → List V → Prop
  | [], vs => vs = []
  | d :: ds, vs => ∃ v r, vs = v :: r ∧ Rep a0 G d v ∧ Reps a0 G ds r
end
section
variable {a0 c0 : Addr} {F G G' H H' : Hp}
mutual
theorem Rep.mono (s : Sub G G') : ∀ (d : D) (v : V), Rep a0 G d v → Rep a0 G' d v
  | .non, _, h => h
  | .bl _, _, h => h
  | .int _, _, h => h
  | .str _, _, h => h
  | .st, _, h => h
  | .tup ds, v, h => by
    unfold Rep at h ⊢
    obtain ⟨a, vs, e, g, r⟩ := h
    exact ⟨a, vs, e, s _ _ g, Reps.mono s ds vs r⟩
  | .lst ds, v, h => by
    unfold Rep at h ⊢
    obtain ⟨a, vs, e, g, r⟩ := h
    exact ⟨a, vs, e, s _ _ g, Reps.mono s ds vs r⟩
theorem Reps.mono (s : Sub G G') : ∀ (ds : List D) (vs : List V), Reps a0 G ds vs → Reps a0 G' ds vs
  | [], _, h => by unfold Reps at h ⊢; exact h
  | d :: ds, vs, h => by
    unfold Reps at h ⊢
    obtain ⟨v, r, e, h1, h2⟩ := h
    exact ⟨v, r, e, Rep.mono s d v h1, Reps.mono s ds r h2⟩
end
theorem Reps.nil : Reps a0 G [] [] := by unfold Reps; rfl
theorem Reps.cons {d : D} {ds : List D} {v : V} {vs : List V} (h : Rep a0 G d v) (t : Reps a0 G ds vs) : Reps a0 G (d :: ds) (v :: vs) := by
  unfold Reps; exact ⟨v, vs, rfl, h, t⟩
theorem Reps.inv_nil {vs : List V} (h : Reps a0 G [] vs) : vs = [] := by unfold Reps at h; exact h
theorem Reps.inv_cons {d : D} {ds : List D} {vs : List V} (h : Reps a0 G (d :: ds) vs) : ∃ v r, vs = v :: r ∧ Rep a0 G d v ∧ Reps a0 G ds r := by unfold Reps at h; exact h
theorem Reps.len : ∀ {ds : List D} {vs : List V}, Reps a0 G ds vs → vs.length = ds.length
  | [], _, h => by rw [h.inv_nil]; rfl
  | d :: ds, _, h => by obtain ⟨v, r, rfl, _, t⟩ := h.inv_cons; simp [t.len]
theorem Reps.append : ∀ {ds es : List D} {vs us : List V}, Reps a0 G ds vs → Reps a0 G es us → Reps a0 G (ds ++ es) (vs ++ us)
  | [], _, _, _, h, t => by rw [h.inv_nil]; exact t
  | d :: ds, _, _, _, h, t => by obtain ⟨v, r, rfl, h1, h2⟩ := h.inv_cons; exact .cons h1 (h2.append t)
theorem Reps.take : ∀ {ds : List D} {vs : List V} (n : Nat), Reps a0 G ds vs → Reps a0 G (ds.take n) (vs.take n)
  | _, _, 0, _ => by simpa using Reps.nil
  | [], _, n + 1, h => by rw [h.inv_nil]; exact .nil
  | d :: ds, _, n + 1, h => by obtain ⟨v, r, rfl, h1, h2⟩ := h.inv_cons; exact .cons h1 (h2.take n)
theorem Reps.drop : ∀ {ds : List D} {vs : List V} (n : Nat), Reps a0 G ds vs → Reps a0 G (ds.drop n) (vs.drop n)
  | _, _, 0, h => by simpa using h
  | [], _, n + 1, h => by rw [h.inv_nil]; exact .nil
  | d :: ds, _, n + 1, h => by obtain ⟨v, r, rfl, h1, h2⟩ := h.inv_cons; exact h2.drop n
theorem Reps.get : ∀ {ds : List D} {vs : List V} {i : Nat} {d : D}, Reps a0 G ds vs → ds[i]? = some d → ∃ v, vs[i]? = some v ∧ Rep a0 G d v
  | [], _, _, _, _, e => by simp at e
  | d :: ds, _, 0, _, h, e => by obtain ⟨v, r, rfl, h1, h2⟩ := h.inv_cons; simp at e; subst e; exact ⟨v, rfl, h1⟩
  | d :: ds, _, i + 1, _, h, e => by obtain ⟨v, r, rfl, h1, h2⟩ := h.inv_cons; simpa using h2.get (i := i) (by simpa using e)
theorem Reps.rev : ∀ {ds : List D} {vs : List V}, Reps a0 G ds vs → Reps a0 G ds.reverse vs.reverse
  | [], _, h => by rw [h.inv_nil]; exact .nil
  | d :: ds, _, h => by obtain ⟨v, r, rfl, h1, h2⟩ := h.inv_cons; simpa using h2.rev.append (.cons h1 .nil)
theorem Reps.set {d : D} {v : V} (h : Rep a0 G d v) : ∀ {ds : List D} {vs : List V} (i : Nat), Reps a0 G ds vs → Reps a0 G (ds.set i d) (vs.set i v)
  | [], _, _, t => by rw [t.inv_nil]; exact .nil
  | _ :: ds, _, 0, t => by obtain ⟨v, r, rfl, h1, h2⟩ := t.inv_cons; exact .cons h h2
  | _ :: ds, _, i + 1, t => by obtain ⟨v, r, rfl, h1, h2⟩ := t.inv_cons; exact .cons h1 (h2.set h i)
theorem Reps.rep : ∀ {ds : List D} {vs : List V} (k : Nat), Reps a0 G ds vs → Reps a0 G (List.replicate k ds).flatten (List.replicate k vs).flatten
  | _, _, 0, _ => .nil
  | _, _, k + 1, h => by simp only [List.replicate_succ, List.flatten_cons]; exact h.append (h.rep k)

/-- all but the draws' two lists stand -/
abbrev Keep (a0 c0 : Addr) (H H' : Hp) : Prop := ∀ b o, H b = some o → b ≠ a0 → b ≠ c0 → H' b = some o
theorem Keep.refl : Keep a0 c0 H H := fun _ _ e _ _ => e
theorem Keep.trans {J : Hp} (a : Keep a0 c0 H H') (b : Keep a0 c0 H' J) : Keep a0 c0 H J := fun x o e n m => b x o (a x o e n m) n m
theorem Keep.new {p : Addr} {o : HO} (n : H p = none) : Keep a0 c0 H (upd H p o) := fun b u e _ _ => Sub.upd n b u e

structure StOk (a0 c0 : Addr) (F G H : Hp) (t : DS) : Prop where
  h0 : H a0 = some (.lst [.int t.n, .ref c0])
  hc : H c0 = some (.lst (t.cells.map V.int))
  f0 : F a0 = none
  fc : F c0 = none
  g0 : G a0 = none
  gc : G c0 = none
theorem StOk.ne {t : DS} (s : StOk a0 c0 F G H t) {p : Addr} (n : H p = none) : p ≠ a0 ∧ p ≠ c0 := by
  refine ⟨?_, ?_⟩ <;> (rintro rfl)
  · rw [s.h0] at n; cases n
  · rw [s.hc] at n; cases n

/-- the frame's slots, by the evaluator's environment: F what is not ours, G what is shared -/
structure RE (a0 c0 : Addr) (F G : Hp) (ρ : EnvD) (σ : L2.St) (H : Hp) (t : DS) : Prop where
  fh : Sub F H
  gh : Sub G H
  fg : ∀ b o, F b = some o → G b = none
  st : StOk a0 c0 F G H t
  sh : ∀ (i : Nat) (d : D), ρ[i]? = some (some (Sl.val d)) → ∃ v, σ[i]? = some (some v) ∧ Rep a0 G d v
  ow : ∀ (i : Nat) (ds : List D), ρ[i]? = some (some (Sl.own ds)) → ∃ a vs, σ[i]? = some (some (V.ref a)) ∧ H a = some (.lst vs) ∧ F a = none ∧ G a = none ∧ a ≠ a0 ∧ a ≠ c0 ∧ Reps a0 G ds vs
  inj : ∀ (i j : Nat) (ds es : List D) (a : Addr), ρ[i]? = some (some (Sl.own ds)) → ρ[j]? = some (some (Sl.own es)) → σ[i]? = some (some (V.ref a)) → σ[j]? = some (some (V.ref a)) → i = j
  len : σ.length = ρ.length
section
variable {ρ : EnvD} {σ : L2.St} {t : DS} {p : Addr} {o : HO}
/-- a new object, not shared -/
theorem RE.newP (R : RE a0 c0 F G ρ σ H t) (n : H p = none) : RE a0 c0 F G ρ σ (upd H p o) t := by
  have k := Sub.upd (o := o) n
  refine ⟨R.fh.trans k, R.gh.trans k, R.fg, ⟨k _ _ R.st.h0, k _ _ R.st.hc, R.st.f0, R.st.fc, R.st.g0, R.st.gc⟩, R.sh, fun i ds e => ?_, R.inj, R.len⟩
  obtain ⟨a, vs, h1, h2, h⟩ := R.ow i ds e
  exact ⟨a, vs, h1, k _ _ h2, h⟩
theorem RE.fnone (R : RE a0 c0 F G ρ σ H t) (n : H p = none) : F p = none := by
  cases e : F p with
  | none => rfl
  | some o => rw [R.fh _ _ e] at n; cases n
theorem RE.gnone (R : RE a0 c0 F G ρ σ H t) (n : H p = none) : G p = none := by
  cases e : G p with
  | none => rfl
  | some o => rw [R.gh _ _ e] at n; cases n
/-- what stands and is no slot's own is shared -/
theorem RE.pub (R : RE a0 c0 F G ρ σ H t) (h : H p = some o) (f : F p = none) (n0 : p ≠ a0) (nc : p ≠ c0) (no : ∀ (i : Nat) (ds : List D), ρ[i]? = some (some (Sl.own ds)) → σ[i]? ≠ some (some (V.ref p))) (g : G p = none) :
    RE a0 c0 F (upd G p o) ρ σ H t := by
  have k := Sub.upd (o := o) g
  refine ⟨R.fh, fun b u e => ?_, fun b u e => ?_, ⟨R.st.h0, R.st.hc, R.st.f0, R.st.fc, ?_, ?_⟩, fun i d e => ?_, fun i ds e => ?_, R.inj, R.len⟩
  · by_cases hb : b = p
    · subst hb; rw [upd_same] at e; cases e; exact h
    · rw [upd_ne hb] at e; exact R.gh b u e
  · rw [upd_ne (by rintro rfl; rw [f] at e; cases e)]; exact R.fg b u e
  · rw [upd_ne (Ne.symm n0)]; exact R.st.g0
  · rw [upd_ne (Ne.symm nc)]; exact R.st.gc
  · obtain ⟨v, h1, h2⟩ := R.sh i d e; exact ⟨v, h1, Rep.mono k d v h2⟩
  · obtain ⟨a, vs, h1, h2, h3, h4, h5, h6, h7⟩ := R.ow i ds e
    have hne : a ≠ p := by rintro rfl; exact no i ds e h1
    exact ⟨a, vs, h1, h2, h3, by rw [upd_ne hne]; exact h4, h5, h6, Reps.mono k ds vs h7⟩
/-- a new object, shared -/
theorem RE.newS (R : RE a0 c0 F G ρ σ H t) (n : H p = none) : RE a0 c0 F (upd G p o) ρ σ (upd H p o) t := by
  obtain ⟨n0, nc⟩ := R.st.ne n
  refine (R.newP (o := o) n).pub upd_same (R.fnone n) n0 nc (fun i ds e e2 => ?_) (R.gnone n)
  obtain ⟨a, vs, h1, h2, h⟩ := R.ow i ds e
  rw [h1] at e2; cases e2
  rw [h2] at n; cases n
end
/-- how a value comes: shared; or, borrowed, a list that stands -/
def Res (a0 c0 : Addr) (G H : Hp) : Bool → D → V → Prop
  | false, d, v => Rep a0 G d v
  | true, d, v => Rep a0 G d v ∨ ∃ a vs ds, v = .ref a ∧ d = .lst ds ∧ H a = some (.lst vs) ∧ a ≠ a0 ∧ a ≠ c0 ∧ Reps a0 G ds vs
theorem Res.of {b : Bool} {d : D} {v : V} (h : Rep a0 G d v) : Res a0 c0 G H b d v := by cases b; exact h; exact .inl h
theorem Res.mono {b : Bool} {d : D} {v : V} (h : Res a0 c0 G H b d v) (s : Sub G G') (k : Keep a0 c0 H H') : Res a0 c0 G' H' b d v := by
  cases b with
  | false => exact Rep.mono s d v h
  | true =>
    rcases h with h | ⟨a, vs, ds, e1, e2, h1, n0, nc, h2⟩
    · exact .inl (Rep.mono s d v h)
    · exact .inr ⟨a, vs, ds, e1, e2, k _ _ h1 n0 nc, n0, nc, Reps.mono s ds vs h2⟩
def Ress (a0 c0 : Addr) (G H : Hp) (b : Bool) : List D → List V → Prop
  | [], vs => vs = []
  | d :: ds, vs => ∃ v r, vs = v :: r ∧ Res a0 c0 G H b d v ∧ Ress a0 c0 G H b ds r
theorem Ress.mono {b : Bool} (s : Sub G G') (k : Keep a0 c0 H H') : ∀ {ds : List D} {vs : List V}, Ress a0 c0 G H b ds vs → Ress a0 c0 G' H' b ds vs
  | [], _, h => h
  | d :: ds, _, ⟨v, r, e, h1, h2⟩ => ⟨v, r, e, h1.mono s k, h2.mono s k⟩
theorem Ress.reps : ∀ {ds : List D} {vs : List V}, Ress a0 c0 G H false ds vs → Reps a0 G ds vs
  | [], _, h => by rw [show _ = [] from h]; exact .nil
  | d :: ds, _, ⟨v, r, e, h1, h2⟩ => by subst e; exact .cons h1 h2.reps
theorem Res.tup {b : Bool} {ds : List D} {v : V} (h : Res a0 c0 G H b (.tup ds) v) : Rep a0 G (.tup ds) v := by
  cases b with
  | false => exact h
  | true => rcases h with h | ⟨_, _, _, _, e, _⟩; exact h; cases e
theorem Res.lst {b : Bool} {ds : List D} {v : V} (gh : Sub G H) (h : Res a0 c0 G H b (.lst ds) v) : ∃ a vs, v = .ref a ∧ H a = some (.lst vs) ∧ Reps a0 G ds vs := by
  have q : Rep a0 G (.lst ds) v → ∃ a vs, v = .ref a ∧ H a = some (.lst vs) ∧ Reps a0 G ds vs := fun h => by
    unfold Rep at h
    obtain ⟨a, vs, e, g, r⟩ := h
    exact ⟨a, vs, e, gh _ _ g, r⟩
  cases b with
  | false => exact q h
  | true =>
    rcases h with h | ⟨a, vs, ds', e1, e2, h1, n0, nc, h2⟩
    · exact q h
    · cases e2; exact ⟨a, vs, e1, h1, h2⟩
theorem Res.int {b : Bool} {i : Int} {v : V} (h : Res a0 c0 G H b (.int i) v) : v = .int i := by
  cases b with
  | false => exact h
  | true => rcases h with h | ⟨_, _, _, _, e, _⟩; exact h; cases e
theorem Res.bl {b : Bool} {i : Bool} {v : V} (h : Res a0 c0 G H b (.bl i) v) : v = .bl i := by
  cases b with
  | false => exact h
  | true => rcases h with h | ⟨_, _, _, _, e, _⟩; exact h; cases e
theorem Res.str {b : Bool} {i : Str} {v : V} (h : Res a0 c0 G H b (.str i) v) : v = .str i := by
  cases b with
  | false => exact h
  | true => rcases h with h | ⟨_, _, _, _, e, _⟩; exact h; cases e
theorem Res.non {b : Bool} {v : V} (h : Res a0 c0 G H b .non v) : v = .non := by
  cases b with
  | false => exact h
  | true => rcases h with h | ⟨_, _, _, _, e, _⟩; exact h; cases e
theorem Rep.tupV {ds : List D} {v : V} (h : Rep a0 G (.tup ds) v) : ∃ a vs, v = .ref a ∧ G a = some (.tup vs) ∧ Reps a0 G ds vs := by unfold Rep at h; exact h
theorem Rep.tupI {ds : List D} {a : Addr} {vs : List V} (g : G a = some (.tup vs)) (r : Reps a0 G ds vs) : Rep a0 G (.tup ds) (.ref a) := by unfold Rep; exact ⟨a, vs, rfl, g, r⟩
theorem Rep.lstI {ds : List D} {a : Addr} {vs : List V} (g : G a = some (.lst vs)) (r : Reps a0 G ds vs) : Rep a0 G (.lst ds) (.ref a) := by unfold Rep; exact ⟨a, vs, rfl, g, r⟩

/-! ### data for == -/
mutual
def pd : D → PyData
  | .non => .none
  | .bl b => .bool b
  | .int i => .int i
  | .str s => .str s
  | .tup xs => .tuple (pds xs)
  | .lst xs => .list (pds xs)
  | .st => .dict []
def pds : List D → List PyData
  | [] => []
  | x :: xs => pd x :: pds xs
end
mutual
theorem pd_fit : ∀ (n : Nat) (d : D), d.fit n = true → (pd d).canLay0 = true ∧ (pd d).depth ≤ n
  | n, .non, _ => by simp [pd, PyData.canLay0, PyData.depth]
  | n, .bl _, _ => by simp [pd, PyData.canLay0, PyData.depth]
  | n, .int _, _ => by simp [pd, PyData.canLay0, PyData.depth]
  | n, .str s, h => by simp only [D.fit] at h; simp [pd, PyData.canLay0, PyData.depth, h]
  | n, .st, h => by simp [D.fit] at h
  | 0, .tup xs, h => by simp [D.fit] at h
  | 0, .lst xs, h => by simp [D.fit] at h
  | n + 1, .tup xs, h => by
    simp only [D.fit] at h
    have := pds_fit n xs h
    simp only [pd, PyData.canLay0, PyData.depth]
    exact ⟨this.1, Nat.succ_le_succ this.2⟩
  | n + 1, .lst xs, h => by
    simp only [D.fit] at h
    have := pds_fit n xs h
    simp only [pd, PyData.canLay0, PyData.depth]
    exact ⟨this.1, Nat.succ_le_succ this.2⟩
theorem pds_fit : ∀ (n : Nat) (ds : List D), D.fits n ds = true → PyData.canLayAll0 (pds ds) = true ∧ PyData.depthAll (pds ds) ≤ n
  | n, [], _ => by simp [pds, PyData.canLayAll0, PyData.depthAll]
  | n, d :: ds, h => by
    simp only [D.fits, Bool.and_eq_true] at h
    have h1 := pd_fit n d h.1
    have h2 := pds_fit n ds h.2
    simp only [pds, PyData.canLayAll0, PyData.depthAll, h1.1, h2.1, Bool.and_self, true_and]
    omega
end
theorem pd_shaped {n : Nat} (hn : n ≤ 64) {d : D} (h : d.fit n = true) : SeqAt.shaped (pd d) = true := by
  have := pd_fit n d h
  unfold SeqAt.shaped
  rw [this.1, Bool.true_and]
  exact decide_eq_true (Nat.le_trans this.2 hn)
theorem pds_shaped {n : Nat} (hn : n < 64) {ds : List D} (h : D.fits n ds = true) : SeqAt.shaped (.list (pds ds)) = true := by
  have := pds_fit n ds h
  unfold SeqAt.shaped
  simp only [PyData.canLay0, PyData.depth, this.1, Bool.true_and]
  exact decide_eq_true (by omega)
mutual
theorem pd_eqv : ∀ (a b : D) (n m : Nat), a.fit n = true → b.fit m = true → PyData.eqv (pd a) (pd b) = a.eqv b
  | .st, _, _, _, h, _ => by simp [D.fit] at h
  | a, .st, n, m, _, h => by simp [D.fit] at h
  | .tup xs, .tup ys, 0, _, h, _ => by simp [D.fit] at h
  | .tup xs, .tup ys, _, 0, _, h => by simp [D.fit] at h
  | .tup xs, .tup ys, n + 1, m + 1, h, h' => by
    simp only [D.fit] at h h'
    simp only [pd, PyData.eqv, D.eqv, pds_eqv xs ys n m h h']
  | .lst xs, .lst ys, 0, _, h, _ => by simp [D.fit] at h
  | .lst xs, .lst ys, _, 0, _, h => by simp [D.fit] at h
  | .lst xs, .lst ys, n + 1, m + 1, h, h' => by
    simp only [D.fit] at h h'
    simp only [pd, PyData.eqv, D.eqv, pds_eqv xs ys n m h h']
  | .non, .non, _, _, _, _ | .non, .bl _, _, _, _, _ | .non, .int _, _, _, _, _ | .non, .str _, _, _, _, _ | .non, .tup _, _, _, _, _ | .non, .lst _, _, _, _, _ => by simp [pd, PyData.eqv, D.eqv]
  | .bl _, .non, _, _, _, _ | .bl _, .bl _, _, _, _, _ | .bl _, .int _, _, _, _, _ | .bl _, .str _, _, _, _, _ | .bl _, .tup _, _, _, _, _ | .bl _, .lst _, _, _, _, _ => by simp [pd, PyData.eqv, D.eqv]
  | .int _, .non, _, _, _, _ | .int _, .bl _, _, _, _, _ | .int _, .int _, _, _, _, _ | .int _, .str _, _, _, _, _ | .int _, .tup _, _, _, _, _ | .int _, .lst _, _, _, _, _ => by simp [pd, PyData.eqv, D.eqv]
  | .str _, .non, _, _, _, _ | .str _, .bl _, _, _, _, _ | .str _, .int _, _, _, _, _ | .str _, .str _, _, _, _, _ | .str _, .tup _, _, _, _, _ | .str _, .lst _, _, _, _, _ => by simp [pd, PyData.eqv, D.eqv]
  | .tup _, .non, _, _, _, _ | .tup _, .bl _, _, _, _, _ | .tup _, .int _, _, _, _, _ | .tup _, .str _, _, _, _, _ | .tup _, .lst _, _, _, _, _ => by simp [pd, PyData.eqv, D.eqv]
  | .lst _, .non, _, _, _, _ | .lst _, .bl _, _, _, _, _ | .lst _, .int _, _, _, _, _ | .lst _, .str _, _, _, _, _ | .lst _, .tup _, _, _, _, _ => by simp [pd, PyData.eqv, D.eqv]
theorem pds_eqv : ∀ (xs ys : List D) (n m : Nat), D.fits n xs = true → D.fits m ys = true → PyData.eqvAll (pds xs) (pds ys) = D.eqvs xs ys
  | [], [], _, _, _, _ => by simp [pds, PyData.eqvAll, D.eqvs]
  | [], _ :: _, _, _, _, _ => by simp [pds, PyData.eqvAll, D.eqvs]
  | _ :: _, [], _, _, _, _ => by simp [pds, PyData.eqvAll, D.eqvs]
  | x :: xs, y :: ys, n, m, h, h' => by
    simp only [D.fits, Bool.and_eq_true] at h h'
    simp only [pds, PyData.eqvAll, D.eqvs, pd_eqv x y n m h.1 h'.1, pds_eqv xs ys n m h.2 h'.2]
end
mutual
theorem Rep.dp (K : PySem.W.Frag) (gh : Sub G H) : ∀ (n : Nat) (d : D) (v : V), d.fit n = true → Rep a0 G d v → Dp K H v (pd d)
  | _, .non, _, _, h => by unfold Rep at h; subst h; exact .non
  | _, .bl _, _, _, h => by unfold Rep at h; subst h; exact .bl _
  | _, .int _, _, _, h => by unfold Rep at h; subst h; exact .int _
  | _, .str _, _, _, h => by unfold Rep at h; subst h; exact .str _
  | _, .st, _, h, _ => by simp [D.fit] at h
  | 0, .tup xs, _, h, _ => by simp [D.fit] at h
  | 0, .lst xs, _, h, _ => by simp [D.fit] at h
  | n + 1, .tup xs, v, h, r => by
    unfold Rep at r
    obtain ⟨a, vs, rfl, g, r⟩ := r
    simp only [D.fit] at h
    exact .tup (SqT.of (gh _ _ g)) (Reps.dp K gh n xs vs h r)
  | n + 1, .lst xs, v, h, r => by
    unfold Rep at r
    obtain ⟨a, vs, rfl, g, r⟩ := r
    simp only [D.fit] at h
    exact .lst (SqL.of (gh _ _ g)) (Reps.dp K gh n xs vs h r)
theorem Reps.dp (K : PySem.W.Frag) (gh : Sub G H) : ∀ (n : Nat) (ds : List D) (vs : List V), D.fits n ds = true → Reps a0 G ds vs → DpAll K H vs (pds ds)
  | _, [], _, _, r => by rw [r.inv_nil]; exact .nil
  | n, d :: ds, _, h, r => by
    obtain ⟨v, q, rfl, h1, h2⟩ := r.inv_cons
    simp only [D.fits, Bool.and_eq_true] at h
    exact .cons (Rep.dp K gh n d v h.1 h1) (Reps.dp K gh n ds q h.2 h2)
end
theorem Res.dp (K : PySem.W.Frag) (gh : Sub G H) {b : Bool} {n : Nat} {d : D} {v : V} (hf : d.fit n = true) (h : Res a0 c0 G H b d v) : Dp K H v (pd d) := by
  cases b with
  | false => exact Rep.dp K gh n d v hf h
  | true =>
    rcases h with h | ⟨a, vs, ds, rfl, rfl, h1, n0, nc, h2⟩
    · exact Rep.dp K gh n d v hf h
    · cases n with
      | zero => simp [D.fit] at hf
      | succ n =>
        simp only [D.fit] at hf
        exact .lst (SqL.of h1) (Reps.dp K gh n ds vs hf h2)
end
end Ev

/-! Ev2: the syntax against the program's, and each expression's rule. -/
namespace Ev
open PySem PySem.Spec PyProof.Rows L2

def B.nm : B → Str
  | .len => "len" | .sum => "sum" | .max => "max" | .min => "min" | .abs => "abs" | .int => "int" | .tuple => "tuple" | .list => "list" | .all => "all" | .any => "any"
def B.val : B → Value
  | .len => .builtin "len" | .sum => .builtin "sum" | .max => .builtin "max" | .min => .builtin "min" | .abs => .builtin "abs" | .all => .builtin "all" | .any => .builtin "any"
  | .int => .type "int" | .tuple => .type "tuple" | .list => .type "list"
def BOp.op : BOp → Operator
  | .add => .Add | .sub => .Sub | .mul => .Mult | .fdiv => .FloorDiv | .mod => .Mod | .and => .BitAnd | .xor => .BitXor | .shr => .RShift | .shl => .LShift

/-- what the def's context tells -/
structure Good (call : Nat → List D → DS → R D) (gi : List (Str × Int)) (fns : List Str) (k : Nat) (X : Cx) : Prop where
  calm : X.calm = true
  nd : X.N.Nodup
  hr : Room k X.A
  pass : PassesOwn (model X.prog X.w) X.A X.env X.xe
  gi : ∀ (j : Nat) (x : Str) (i : Int), gi[j]? = some (x, i) → ∃ t, X.mg x = some (.int i t)
  bn : ∀ f : B, X.mg f.nm = none
  rg : X.mg "range" = none

section
variable {call : Nat → List D → DS → R D} {X : Cx} {a0 c0 : Addr} {F G G' H H' : Hp} {ρ : EnvD} {σ : L2.St} {t t' : DS}

theorem PE.imp {e : Expr} {te te' : TE} (h : PE X e te) (hi : ∀ σ H Q, te' σ H Q → te σ H Q) : PE X e te' := ⟨fun pins s σ H Q I q => h.run pins s σ H Q I (hi σ H Q q)⟩
theorem PT.imp {e : Expr} {te te' : TT} (h : PT X e te) (hi : ∀ σ H Q, te' σ H Q → te σ H Q) : PT X e te' := ⟨fun pins s σ H Q I q => h.run pins s σ H Q I (hi σ H Q q)⟩

/-- what is wanted behind: W of the shared heap, the heap, the value -/
abbrev Post (a0 c0 : Addr) (F G : Hp) (ρ : EnvD) (σ : L2.St) (H : Hp) (t : DS) {α : Type} (W : Hp → Hp → α → Prop) (Q : α → Hp → Prop) : Prop :=
  ∀ v H' G', Sub G G' → Keep a0 c0 H H' → RE a0 c0 F G' ρ σ H' t → W G' H' v → Q v H'
/-- a new list of ours -/
structure Fr (a0 c0 : Addr) (F G : Hp) (ρ : EnvD) (σ : L2.St) (H : Hp) (ds : List D) (v : V) : Prop where
  ex : ∃ a vs, v = V.ref a ∧ H a = some (.lst vs) ∧ F a = none ∧ G a = none ∧ a ≠ a0 ∧ a ≠ c0 ∧ (∀ (i : Nat) (es : List D), ρ[i]? = some (some (Sl.own es)) → σ[i]? ≠ some (some (V.ref a))) ∧ Reps a0 G ds vs
def ResG (a0 c0 : Addr) (F : Hp) (ρ : EnvD) (σ : L2.St) (d : D) (G H : Hp) (v : V) : Prop :=
  match d with
  | .lst ds => Fr a0 c0 F G ρ σ H ds v
  | d => Rep a0 G d v

/-- an expression's reading -/
def tE (call : Nat → List D → DS → R D) (b : Bool) (e : E) : TE := fun σ H Q => ∃ a0 c0 F G ρ t d t', RE a0 c0 F G ρ σ H t ∧ evE call e b ρ t = some (d, t') ∧
  Post a0 c0 F G ρ σ H t' (fun G' H' v => Res a0 c0 G' H' b d v) Q
/-- .. a list comes new -/
def tG (call : Nat → List D → DS → R D) (e : E) : TE := fun σ H Q => ∃ a0 c0 F G ρ t d t', RE a0 c0 F G ρ σ H t ∧ evE call e true ρ t = some (d, t') ∧
  Post a0 c0 F G ρ σ H t' (ResG a0 c0 F ρ σ d) Q
def tEs (call : Nat → List D → DS → R D) (b : Bool) (es : E) : TA := fun σ H Q => ∃ a0 c0 F G ρ t ds t', RE a0 c0 F G ρ σ H t ∧ evEs call es b ρ t = some (ds, t') ∧
  Post a0 c0 F G ρ σ H t' (fun G' H' vs => Ress a0 c0 G' H' b ds vs) Q
def tT (call : Nat → List D → DS → R D) (e : E) : TT := fun σ H Q => ∃ a0 c0 F G ρ t k t', RE a0 c0 F G ρ σ H t ∧ tst (evE call e true ρ t) = some (k, t') ∧
  ∀ H' G', Sub G G' → Keep a0 c0 H H' → RE a0 c0 F G' ρ σ H' t' → Q k H'

theorem Fr.mk' {p : Addr} {vs : List V} {ds : List D} (R : RE a0 c0 F G ρ σ H t) (n : H p = none) (r : Reps a0 G ds vs) : Fr a0 c0 F G ρ σ (upd H p (.lst vs)) ds (.ref p) := by
  obtain ⟨n0, nc⟩ := R.st.ne n
  refine ⟨⟨p, vs, rfl, upd_same, R.fnone n, R.gnone n, n0, nc, fun i es e e2 => ?_, r⟩⟩
  obtain ⟨a, us, h1, h2, h⟩ := R.ow i es e
  rw [h1] at e2; cases e2
  rw [h2] at n; cases n
/-- a new list is shared -/
theorem Fr.pub {ds : List D} {v : V} (R : RE a0 c0 F G ρ σ H t) (f : Fr a0 c0 F G ρ σ H ds v) : ∃ G', Sub G G' ∧ RE a0 c0 F G' ρ σ H t ∧ Rep a0 G' (.lst ds) v := by
  obtain ⟨a, vs, rfl, h, f, g, n0, nc, no, r⟩ := f.ex
  exact ⟨upd G a (.lst vs), Sub.upd g, R.pub h f n0 nc no g, Rep.lstI upd_same (Reps.mono (Sub.upd g) _ _ r)⟩
theorem tE_of_tG {e : E} {pe : Expr} {b : Bool} (h : PE X pe (tG call e)) (hb : ∀ ρ t, evE call e b ρ t = evE call e true ρ t) : PE X pe (tE call b e) := by
  refine PE.imp h ?_
  rintro σ H Q ⟨a0, c0, F, G, ρ, t, d, t', R, ev, q⟩
  refine ⟨a0, c0, F, G, ρ, t, d, t', R, by rw [← hb]; exact ev, fun v H' G' s k R' w => ?_⟩
  by_cases hd : ∃ ds, d = .lst ds
  · obtain ⟨ds, rfl⟩ := hd
    obtain ⟨G2, s2, R2, r2⟩ := Fr.pub R' w
    exact q v H' G2 (s.trans s2) k R2 (Res.of r2)
  · have w' : Rep a0 G' d v := by
      cases d with
      | lst ds => exact absurd ⟨ds, rfl⟩ hd
      | _ => exact w
    exact q v H' G' s k R' (Res.of w')
/-- one operand -/
theorem op1 {a : E} {x : D} {t1 : DS} {Q : VK} (R : RE a0 c0 F G ρ σ H t) (ea : evE call a true ρ t = some (x, t1))
    (h : ∀ u H1 G1, Sub G G1 → Keep a0 c0 H H1 → RE a0 c0 F G1 ρ σ H1 t1 → Res a0 c0 G1 H1 true x u → Q u H1) : tE call true a σ H Q :=
  ⟨a0, c0, F, G, ρ, t, x, t1, R, ea, h⟩
/-- two operands -/
theorem op2 {a b : E} {x y : D} {t1 t2 : DS} {Q : V → V → Hp → Prop} (R : RE a0 c0 F G ρ σ H t) (ea : evE call a true ρ t = some (x, t1)) (eb : evE call b true ρ t1 = some (y, t2))
    (h : ∀ u v H2 G2, Sub G G2 → Keep a0 c0 H H2 → RE a0 c0 F G2 ρ σ H2 t2 → Res a0 c0 G2 H2 true x u → Res a0 c0 G2 H2 true y v → Q u v H2) :
    tE call true a σ H fun u H1 => tE call true b σ H1 fun v H2 => Q u v H2 :=
  ⟨a0, c0, F, G, ρ, t, x, t1, R, ea, fun u H1 G1 s1 k1 R1 r1 => ⟨a0, c0, F, G1, ρ, t1, y, t2, R1, eb, fun v H2 G2 s2 k2 R2 r2 => h u v H2 G2 (s1.trans s2) (k1.trans k2) R2 (r1.mono s2 k2) r2⟩⟩

/-! ### operators -/
def rBin (K : PySem.W.Frag) : BOp → R2
  | .add => fun x y H Q => (rI0 fun i j => .int (i + j)) x y H Q ∨ (rCatA K x y H Q ∨ rCat x y H Q)
  | .sub => rI0 fun i j => .int (i - j)
  | .mul => fun x y H Q => rI CMul (fun i j => .int (i * j)) x y H Q ∨ (rRep x y H Q ∨ rRepT K x y H Q)
  | .fdiv => rI CDiv fun i j => .int (i / j)
  | .mod => rI (fun _ j => 0 < j) fun i j => .int (i % j)
  | .and => rI0 fun i j => .int (Builtin.bitAnd i j)
  | .xor => rI0 fun i j => .int (Builtin.bitXor i j)
  | .shr => rI (fun _ j => 0 ≤ j) fun i j => .int (i / 2 ^ j.toNat)
  | .shl => rI CPow fun i j => .int (i * 2 ^ j.toNat)
theorem opBin : ∀ op : BOp, OpR X (binaryOp op.op) (rBin X.K op)
  | .add => op_add.or (op_catA.or op_cat)
  | .sub => op_sub
  | .mul => op_mul.or (op_rep.or op_repT)
  | .fdiv => op_fdiv
  | .mod => op_mod
  | .and => op_and
  | .xor => op_xor
  | .shr => op_shr
  | .shl => op_shl
theorem small_ok {i : Int} (h : small i = true) : -(2 ^ 64) < i ∧ i < 2 ^ 64 := by
  unfold small at h
  simp only [Bool.and_eq_true, decide_eq_true_eq] at h
  exact h
theorem bin_ok {op : BOp} {x y d : D} {u v : V} {Q : VK} (R : RE a0 c0 F G ρ σ H t) (e : binF op x y = some d) (rx : Res a0 c0 G H true x u) (ry : Res a0 c0 G H true y v)
    (q : Post a0 c0 F G ρ σ H t (ResG a0 c0 F ρ σ d) Q) : rBin X.K op u v H Q := by
  have fin : ∀ {w : V}, ResG a0 c0 F ρ σ d G H w → Q w H := fun w => q _ H G Sub.refl Keep.refl R w
  have newL : ∀ {vs : List V} {ds : List D}, d = .lst ds → Reps a0 G ds vs → ∀ p, H p = none → Q (.ref p) (upd H p (.lst vs)) := fun {vs ds} ed r p n => by
    subst ed
    exact q _ _ G Sub.refl (Keep.new n) (R.newP n) (Fr.mk' R n r)
  have hline : sizeLine = 16777216 := sizeLine_eq
  unfold binF at e
  split at e
  · cases e; rw [rx.int, ry.int]; exact .inl ⟨_, _, rfl, rfl, fin rfl⟩
  · rename_i xs ys
    split at e
    · cases e
      obtain ⟨a, vs, rfl, ga, ra⟩ := rx.tup.tupV
      obtain ⟨b, us, rfl, gb, rb⟩ := ry.tup.tupV
      rename_i hz
      refine .inr (.inl ⟨a, b, vs, us, rfl, rfl, SqT.of (R.gh _ _ ga), SqT.of (R.gh _ _ gb), by rw [ra.len, rb.len, hline]; exact hz, fun h => ?_, fun h1 h2 => ?_, fun h1 h2 p n => ?_⟩)
      · have : xs = [] := List.eq_nil_of_length_eq_zero (by rw [← ra.len, h]; rfl)
        subst this
        exact fin (Rep.tupI gb rb)
      · have : ys = [] := List.eq_nil_of_length_eq_zero (by rw [← rb.len, h2]; rfl)
        subst this
        rw [List.append_nil] at fin
        exact fin (Rep.tupI ga ra)
      · exact q _ _ _ (Sub.upd (R.gnone n)) (Keep.new n) (R.newS n) (Rep.tupI upd_same (Reps.mono (Sub.upd (R.gnone n)) _ _ (ra.append rb)))
    · cases e
  · rename_i xs ys
    split at e
    · cases e
      obtain ⟨a, vs, rfl, ga, ra⟩ := rx.lst R.gh
      obtain ⟨b, us, rfl, gb, rb⟩ := ry.lst R.gh
      rename_i hz
      exact .inr (.inr ⟨a, b, vs, us, rfl, rfl, ga, gb, by rw [ra.len, rb.len, hline]; exact hz, newL rfl (ra.append rb)⟩)
    · cases e
  · cases e; rw [rx.int, ry.int]; exact ⟨_, _, rfl, rfl, fin rfl⟩
  · split at e
    · cases e
      rename_i hz
      rw [rx.int, ry.int]
      refine .inl ⟨_, _, rfl, rfl, ?_, fin rfl⟩
      rcases Bool.or_eq_true_iff.mp hz with h | h
      · exact .inl (small_ok h)
      · exact .inr (small_ok h)
    · cases e
  · rename_i xs k
    split at e
    · cases e
      rename_i hz
      obtain ⟨a, vs, rfl, ga, ra⟩ := rx.lst R.gh
      rw [ry.int]
      exact .inr (.inl ⟨a, k, vs, rfl, rfl, ga, hz.2.1, hz.1, by rw [ra.len, hline]; exact hz.2.2, newL rfl (ra.rep _)⟩)
    · cases e
  · split at e
    · cases e; rename_i hz; rw [rx.int, ry.int]; exact ⟨_, _, rfl, rfl, hz, fin rfl⟩
    · cases e
  · split at e
    · cases e; rename_i hz; rw [rx.int, ry.int]; exact ⟨_, _, rfl, rfl, hz, fin rfl⟩
    · cases e
  · split at e
    · cases e; rename_i hz; rw [rx.int, ry.int]; exact ⟨_, _, rfl, rfl, hz, fin rfl⟩
    · cases e
  · split at e
    · cases e; rename_i hz; rw [rx.int, ry.int]
      refine ⟨_, _, rfl, rfl, ⟨hz.1, hz.2.1, ?_⟩, fin rfl⟩
      have := small_ok hz.2.2
      omega
    · cases e
  · cases e; rw [rx.int, ry.int]; exact ⟨_, _, rfl, rfl, fin rfl⟩
  · cases e; rw [rx.int, ry.int]; exact ⟨_, _, rfl, rfl, fin rfl⟩
  · rename_i xs k
    split at e
    · cases e
      rename_i hz
      obtain ⟨a, vs, rfl, ga, ra⟩ := rx.tup.tupV
      rw [ry.int]
      exact .inr (.inr ⟨a, k, vs, rfl, rfl, SqT.of (R.gh _ _ ga), fun h => by rw [h] at ra; have := ra.len; have := hz.1; simp at *; omega, hz.2.1, hz.2.2.1, by rw [ra.len]; exact hz.2.2.2, fun p n =>
        q _ _ _ (Sub.upd (R.gnone n)) (Keep.new n) (R.newS n) (Rep.tupI upd_same (Reps.mono (Sub.upd (R.gnone n)) _ _ (ra.rep _)))⟩)
    · cases e
  · cases e

/-! ### comparisons -/
def rCmp (K : PySem.W.Frag) : CmpOp → R2
  | .Lt => rI0 fun i j => .bl (decide (i < j))
  | .LtE => rI0 fun i j => .bl (decide (i ≤ j))
  | .Gt => rI0 fun i j => .bl (decide (j < i))
  | .GtE => rI0 fun i j => .bl (decide (j ≤ i))
  | .Eq => rEqD K
  | .NotEq => rNeD K
  | .Is => fun x y H Q => rIsB x y H Q ∨ (y = .non ∧ Q (.bl (decide (x = .non))) H)
  | .IsNot => fun x y H Q => rNotB x y H Q ∨ (y = .non ∧ Q (.bl (!decide (x = .non))) H)
  | .In => fun x y H Q => rInD K x y H Q ∨ rIn K false x y H Q
  | .NotIn => fun x y H Q => rNotInD K x y H Q ∨ rIn K true x y H Q
theorem opCmp (hu : X.A.units + 65 < cLine) : ∀ op : CmpOp, OpR X (compareOp op) (rCmp X.K op)
  | .Lt => op_lt
  | .LtE => op_le
  | .Gt => op_gt
  | .GtE => op_ge
  | .Eq => op_eqD (Nat.lt_of_succ_lt hu)
  | .NotEq => op_neD (Nat.lt_of_succ_lt hu)
  | .Is => op_isBl.or op_isN
  | .IsNot => op_notBl.or op_notN
  | .In => (op_inD hu).or op_in_seq
  | .NotIn => (op_notInD hu).or op_notIn_seq
theorem eqF_ok {x y : D} {k : Bool} (e : eqF x y = some k) : x.fit 60 = true ∧ y.fit 60 = true ∧ PyData.eqv (pd x) (pd y) = k := by
  unfold eqF at e
  split at e
  · rename_i h
    rw [Bool.and_eq_true] at h
    cases e
    exact ⟨h.1, h.2, pd_eqv x y 60 60 h.1 h.2⟩
  · cases e
theorem any_pds {y : D} (n m : Nat) (hy : y.fit m = true) : ∀ (xs : List D), D.fits n xs = true → (pds xs).any (fun z => PyData.eqv z (pd y)) = xs.any fun z => z.eqv y
  | [], _ => rfl
  | x :: xs, h => by
    simp only [D.fits, Bool.and_eq_true] at h
    simp only [pds, List.any_cons, pd_eqv x y n m h.1 hy, any_pds n m hy xs h.2]
theorem inF_ok {x : D} {ys : List D} {k : Bool} (e : inF x ys = some k) : x.fit 60 = true ∧ D.fits 60 ys = true ∧ (pds ys).any (fun z => PyData.eqv z (pd x)) = k := by
  unfold inF at e
  split at e
  · rename_i h
    rw [Bool.and_eq_true] at h
    cases e
    exact ⟨h.1, h.2, any_pds 60 60 h.1 ys h.2⟩
  · cases e
theorem none_iff {x : D} {u : V} (r : Res a0 c0 G H true x u) : decide (u = V.non) = x.isNon := by
  cases x with
  | non => rw [r.non]; rfl
  | bl b => rw [r.bl]; rfl
  | int i => rw [r.int]; rfl
  | str s => rw [r.str]; rfl
  | tup ds => obtain ⟨a, vs, rfl, _⟩ := r.tup.tupV; rfl
  | lst ds =>
    rcases r with r | ⟨a, vs, es, rfl, _⟩
    · unfold Rep at r; obtain ⟨a, vs, rfl, _⟩ := r; rfl
    · rfl
  | st =>
    rcases r with r | ⟨a, vs, es, _, e, _⟩
    · unfold Rep at r; subst r; rfl
    · cases e
theorem flat_v {x : D} {u : V} {G : Hp} (r : Rep a0 G x u) (h : x.flat = true) : flatV u = true := by
  cases x with
  | non => obtain rfl : u = .non := r; rfl
  | bl b => obtain rfl : u = .bl b := r; rfl
  | int b => obtain rfl : u = .int b := r; rfl
  | str b => obtain rfl : u = .str b := r; rfl
  | _ => cases h
theorem flat_eq {x y : D} {u v : V} {G : Hp} (r : Rep a0 G x u) (h : x.flat = true) (r2 : Rep a0 G y v) (h2 : y.flat = true) : eqV u v = x.eqv y := by
  cases x with
  | non => obtain rfl : u = .non := r; cases y with
    | non => obtain rfl : v = .non := r2; rfl
    | bl b => obtain rfl : v = .bl b := r2; rfl
    | int b => obtain rfl : v = .int b := r2; rfl
    | str b => obtain rfl : v = .str b := r2; rfl
    | _ => cases h2
  | bl a => obtain rfl : u = .bl a := r; cases y with
    | non => obtain rfl : v = .non := r2; rfl
    | bl b => obtain rfl : v = .bl b := r2; rfl
    | int b => obtain rfl : v = .int b := r2; rfl
    | str b => obtain rfl : v = .str b := r2; rfl
    | _ => cases h2
  | int a => obtain rfl : u = .int a := r; cases y with
    | non => obtain rfl : v = .non := r2; rfl
    | bl b => obtain rfl : v = .bl b := r2; rfl
    | int b => obtain rfl : v = .int b := r2; rfl
    | str b => obtain rfl : v = .str b := r2; rfl
    | _ => cases h2
  | str a => obtain rfl : u = .str a := r; cases y with
    | non => obtain rfl : v = .non := r2; rfl
    | bl b => obtain rfl : v = .bl b := r2; rfl
    | int b => obtain rfl : v = .int b := r2; rfl
    | str b => obtain rfl : v = .str b := r2; rfl
    | _ => cases h2
  | _ => cases h
theorem flats_ok {x : D} {u : V} {G : Hp} (r : Rep a0 G x u) (h : x.flat = true) : ∀ {ys : List D} {vs : List V}, Reps a0 G ys vs → ys.all D.flat = true → vs.all flatV = true ∧ inV u vs = ys.any fun z => z.eqv x
  | [], vs, rs, _ => by rw [rs.inv_nil]; exact ⟨rfl, rfl⟩
  | y :: ys, vs, rs, hs => by
    obtain ⟨v, w, rfl, r1, r2⟩ := rs.inv_cons
    rw [List.all_cons, Bool.and_eq_true] at hs
    obtain ⟨h1, h2⟩ := flats_ok r h r2 hs.2
    refine ⟨by rw [List.all_cons, flat_v r1 hs.1, h1]; rfl, ?_⟩
    show (eqV v u || inV u w) = _
    rw [List.any_cons, flat_eq r1 hs.1 r h, h2]
theorem inTF_ok {x : D} {ys : List D} {k : Bool} {u v : V} (R : RE a0 c0 F G ρ σ H t) (e : inTF x ys = some k) (rx : Res a0 c0 G H true x u) (ry : Res a0 c0 G H true (.tup ys) v) :
    ∃ p xs, v = .ref p ∧ (SqL X.K H p xs ∨ SqT X.K H p xs) ∧ flatV u = true ∧ xs.all flatV = true ∧ inV u xs = k := by
  unfold inTF at e
  split at e
  · rename_i h
    rw [Bool.and_eq_true] at h
    cases e
    obtain ⟨a, vs, rfl, ga, ra⟩ := ry.tup.tupV
    have r1 : Rep a0 G x u := by
      rcases rx with r | ⟨a, vs, ds, rfl, rfl, _⟩
      · exact r
      · exact absurd h.1 (by simp [D.flat])
    obtain ⟨h1, h2⟩ := flats_ok r1 h.1 ra h.2
    exact ⟨a, vs, rfl, .inr (SqT.of (R.gh _ _ ga)), flat_v r1 h.1, h1, h2⟩
  · cases e
theorem cmp_ok {op : CmpOp} {x y : D} {k : Bool} {u v : V} {Q : VK} (R : RE a0 c0 F G ρ σ H t) (e : cmpF op x y = some k) (rx : Res a0 c0 G H true x u) (ry : Res a0 c0 G H true y v)
    (q : Q (.bl k) H) : rCmp X.K op u v H Q := by
  unfold cmpF at e
  split at e
  · cases e; rw [rx.int, ry.int]; exact ⟨_, _, rfl, rfl, q⟩
  · cases e; rw [rx.int, ry.int]; exact ⟨_, _, rfl, rfl, q⟩
  · cases e; rw [rx.int, ry.int]; exact ⟨_, _, rfl, rfl, q⟩
  · cases e; rw [rx.int, ry.int]; exact ⟨_, _, rfl, rfl, q⟩
  · obtain ⟨h1, h2, h3⟩ := eqF_ok e
    exact ⟨_, _, rx.dp X.K R.gh h1, ry.dp X.K R.gh h2, pd_shaped (by decide) h1, pd_shaped (by decide) h2, by rw [h3]; exact q⟩
  · rw [Option.map_eq_some_iff] at e
    obtain ⟨k', e', rfl⟩ := e
    obtain ⟨h1, h2, h3⟩ := eqF_ok e'
    exact ⟨_, _, rx.dp X.K R.gh h1, ry.dp X.K R.gh h2, pd_shaped (by decide) h1, pd_shaped (by decide) h2, by rw [h3]; exact q⟩
  · cases e; rw [rx.bl, ry.bl]; exact .inl ⟨_, _, rfl, rfl, q⟩
  · cases e; rw [rx.bl, ry.bl]; exact .inl ⟨_, _, rfl, rfl, q⟩
  · cases e; refine .inr ⟨ry.non, ?_⟩; rw [none_iff rx]; exact q
  · cases e; refine .inr ⟨ry.non, ?_⟩; rw [none_iff rx]; exact q
  · obtain ⟨h1, h2, h3⟩ := inF_ok e
    obtain ⟨a, vs, rfl, ha, ra⟩ := ry.lst R.gh
    exact .inl ⟨_, _, rx.dp X.K R.gh h1, .lst (SqL.of ha) (Reps.dp X.K R.gh 60 _ _ h2 ra), pd_shaped (by decide) h1, pds_shaped (by decide) h2, by rw [h3]; exact q⟩
  · rw [Option.map_eq_some_iff] at e
    obtain ⟨k', e', rfl⟩ := e
    obtain ⟨h1, h2, h3⟩ := inF_ok e'
    obtain ⟨a, vs, rfl, ha, ra⟩ := ry.lst R.gh
    exact .inl ⟨_, _, rx.dp X.K R.gh h1, .lst (SqL.of ha) (Reps.dp X.K R.gh 60 _ _ h2 ra), pd_shaped (by decide) h1, pds_shaped (by decide) h2, by rw [h3]; exact q⟩
  · obtain ⟨p, xs, e1, h1, h2, h3, h4⟩ := inTF_ok (X := X) R e rx ry
    exact .inr ⟨p, xs, e1, h1, h2, h3, by rw [h4]; exact q⟩
  · rw [Option.map_eq_some_iff] at e
    obtain ⟨k', e', rfl⟩ := e
    obtain ⟨p, xs, e1, h1, h2, h3, h4⟩ := inTF_ok (X := X) R e' rx ry
    exact .inr ⟨p, xs, e1, h1, h2, h3, by rw [h4]; exact q⟩
  · cases e

/-! ### truth -/
theorem tru_of {x : D} {k : Bool} {u : V} (R : RE a0 c0 F G ρ σ H t) (e : truth x = some k) (rx : Res a0 c0 G H true x u) : TruV X.K u H k := by
  have hline : sizeLine = 16777216 := sizeLine_eq
  cases x with
  | non => rw [rx.non]; cases e; rfl
  | bl b => rw [rx.bl]; cases e; rfl
  | int i => rw [rx.int]; cases e; rfl
  | str s =>
    rw [rx.str]
    simp only [truth] at e
    split at e
    · cases e; rename_i h; exact ⟨by rw [hline]; exact h, rfl⟩
    · cases e
  | tup ds =>
    obtain ⟨a, vs, rfl, ga, ra⟩ := rx.tup.tupV
    cases e
    refine .inr (.inl ⟨vs, SqT.of (R.gh _ _ ga), ?_⟩)
    have := ra.len
    cases ds <;> cases vs <;> simp_all
  | lst ds =>
    obtain ⟨a, vs, rfl, ga, ra⟩ := rx.lst R.gh
    cases e
    refine .inl ⟨vs, SqL.of ga, ?_⟩
    have := ra.len
    cases ds <;> cases vs <;> simp_all
  | st => cases e
end
end Ev

/-! Ev3: built-ins, items, slices, targets, what is walked. -/
namespace Ev
open PySem PySem.Spec PyProof.Rows L2
section
variable {call : Nat → List D → DS → R D} {X : Cx} {a0 c0 : Addr} {F G G' H H' : Hp} {ρ : EnvD} {σ : L2.St} {t t' : DS}

/-! ### built-ins -/
def rBl (K : PySem.W.Frag) : B → List V → Hp → VK → Prop
  | .len => fun xs H Q => ∃ x n, xs = [x] ∧ LenV K x H n ∧ Q (.int n) H
  | .sum => rSum K
  | .max => fun xs H Q => rMax K xs H Q ∨ ∃ i j, xs = [.int i, .int j] ∧ Q (.int (if j > i then j else i)) H
  | .min => fun xs H Q => rMin K xs H Q ∨ ∃ i j, xs = [.int i, .int j] ∧ Q (.int (if j < i then j else i)) H
  | .abs => fun xs H Q => ∃ i, xs = [.int i] ∧ Q (.int (if i < 0 then -i else i)) H
  | .int => fun xs H Q => (∃ i, xs = [.int i] ∧ Q (.int i) H) ∨ ∃ k, xs = [.bl k] ∧ Q (.int (if k then 1 else 0)) H
  | .tuple => fun xs H Q => ∃ p ys, xs = [.ref p] ∧ ((SqL K H p ys ∧ ∀ l, H l = none → Q (.ref l) (upd H l (.tup ys))) ∨ (SqT K H p ys ∧ Q (.ref p) H))
  | .list => fun xs H Q => ∃ p ys, xs = [.ref p] ∧ (SqL K H p ys ∨ SqT K H p ys) ∧ ∀ l, H l = none → Q (.ref l) (upd H l (.lst ys))
  | .all => rAll K
  | .any => rAny K
theorem bltR (hc : X.calm = true) : ∀ f : B, CallR X f.val (rBl X.K f)
  | .len => call_len
  | .sum => cr_sum hc
  | .max => (cr_max hc).or (call_max2 hc)
  | .min => (cr_min hc).or (call_min2 hc)
  | .abs => call_abs
  | .int => call_int1
  | .tuple => call_tuple_of
  | .list => call_list_of
  | .all => cr_all hc
  | .any => cr_any hc
theorem boot_b : ∀ f : B, bootBuiltins f.nm = some f.val
  | .len | .sum | .max | .min | .abs | .int | .tuple | .list | .all | .any => by decide +kernel
theorem nm_ok : ∀ f : B, f.nm ≠ "__name__" ∧ (f.nm == ("__debug__" : Str)) = false
  | .len | .sum | .max | .min | .abs | .int | .tuple | .list | .all | .any => by decide +kernel
theorem pe_blt {r : List V → Hp → VK → Prop} {f : B} {e : Expr} {es : List Expr} {p pos : Pos} {ta : TA} (hc : CallR X f.val r) (hg : Gl X f.nm) (hm : X.mg f.nm = none) (ha : PA X (e :: es) ta)
    (he : starEach (e :: es) X.env = (false, eval e X.env) :: starEach es X.env) (hpl : (backTo pos (starEach es X.env)).any (·.1) = false) : PE X (.Call (.Name f.nm p) (e :: es) [] pos) (tCB r ta) := by
  have h1 := boot_b f
  obtain ⟨h2, h3⟩ := nm_ok f
  cases f with
  | int => exact pe_callTy (T := "int") hc hg hm h1 ha h2 h3 he hpl
  | tuple => exact pe_callTy (T := "tuple") hc hg hm h1 ha h2 h3 he hpl
  | list => exact pe_callTy (T := "list") hc hg hm h1 ha h2 h3 he hpl
  | len => exact pe_callB (id := "len") hc hg hm h1 ha h2 h3 he hpl
  | sum => exact pe_callB (id := "sum") hc hg hm h1 ha h2 h3 he hpl
  | max => exact pe_callB (id := "max") hc hg hm h1 ha h2 h3 he hpl
  | min => exact pe_callB (id := "min") hc hg hm h1 ha h2 h3 he hpl
  | abs => exact pe_callB (id := "abs") hc hg hm h1 ha h2 h3 he hpl
  | all => exact pe_callB (id := "all") hc hg hm h1 ha h2 h3 he hpl
  | any => exact pe_callB (id := "any") hc hg hm h1 ha h2 h3 he hpl
theorem allI_ok : ∀ {ds : List D} {l : List Int} {vs : List V}, allI ds = some l → Reps a0 G ds vs → vs = l.map V.int
  | [], l, vs, e, r => by cases e; rw [r.inv_nil]; rfl
  | d :: ds, l, vs, e, r => by
    obtain ⟨v, q, rfl, h1, h2⟩ := r.inv_cons
    cases d with
    | int i =>
      simp only [allI, Option.map_eq_some_iff] at e
      obtain ⟨l', e', rfl⟩ := e
      rw [allI_ok e' h2, show v = V.int i from h1]
      rfl
    | _ => cases e
theorem allB_ok : ∀ {ds : List D} {l : List Bool} {vs : List V}, allB ds = some l → Reps a0 G ds vs → vs = l.map V.bl
  | [], l, vs, e, r => by cases e; rw [r.inv_nil]; rfl
  | d :: ds, l, vs, e, r => by
    obtain ⟨v, q, rfl, h1, h2⟩ := r.inv_cons
    cases d with
    | bl i =>
      simp only [allB, Option.map_eq_some_iff] at e
      obtain ⟨l', e', rfl⟩ := e
      rw [allB_ok e' h2, show v = V.bl i from h1]
      rfl
    | _ => cases e
theorem maxI_ok : ∀ (l : List Int) (i : Int), maxI i l ∈ i :: l ∧ ∀ y ∈ i :: l, y ≤ maxI i l
  | [], i => by simp [maxI]
  | k :: l, i => by
    have ih := maxI_ok l (if i < k then k else i)
    have e : maxI i (k :: l) = maxI (if i < k then k else i) l := rfl
    rw [e]
    refine ⟨?_, fun y hy => ?_⟩
    · rcases List.mem_cons.mp ih.1 with h | h
      · rw [h]; split <;> simp
      · simp [h]
    · have h0 := ih.2 (if i < k then k else i) (by simp)
      have h9 := ih.2
      generalize maxI (if i < k then k else i) l = m at h0 h9 ⊢
      simp only [List.mem_cons] at hy
      rcases hy with h | h | h
      · subst h; split at h0 <;> omega
      · subst h; split at h0 <;> omega
      · exact h9 y (by simp [h])
theorem minI_ok : ∀ (l : List Int) (i : Int), minI i l ∈ i :: l ∧ ∀ y ∈ i :: l, minI i l ≤ y
  | [], i => by simp [minI]
  | k :: l, i => by
    have ih := minI_ok l (if k < i then k else i)
    have e : minI i (k :: l) = minI (if k < i then k else i) l := rfl
    rw [e]
    refine ⟨?_, fun y hy => ?_⟩
    · rcases List.mem_cons.mp ih.1 with h | h
      · rw [h]; split <;> simp
      · simp [h]
    · have h0 := ih.2 (if k < i then k else i) (by simp)
      have h9 := ih.2
      generalize minI (if k < i then k else i) l = m at h0 h9 ⊢
      simp only [List.mem_cons] at hy
      rcases hy with h | h | h
      · subst h; split at h0 <;> omega
      · subst h; split at h0 <;> omega
      · exact h9 y (by simp [h])
theorem blt_ok {f : B} {ds : List D} {d : D} {us : List V} {Q : VK} (R : RE a0 c0 F G ρ σ H t) (e : bltF f ds = some d) (r : Ress a0 c0 G H true ds us)
    (q : Post a0 c0 F G ρ σ H t (ResG a0 c0 F ρ σ d) Q) : rBl X.K f us H Q := by
  have fin : ∀ {w : V}, ResG a0 c0 F ρ σ d G H w → Q w H := fun w => q _ H G Sub.refl Keep.refl R w
  unfold bltF at e
  split at e
  all_goals (try (cases e; done))
  · cases e
    obtain ⟨v, q2, rfl, h1, h2⟩ := r
    obtain rfl : q2 = [] := h2
    obtain ⟨a, vs, rfl, ga, ra⟩ := h1.tup.tupV
    exact ⟨_, _, rfl, .inr ⟨vs, SqT.of (R.gh _ _ ga), rfl⟩, by rw [ra.len]; exact fin rfl⟩
  · cases e
    obtain ⟨v, q2, rfl, h1, h2⟩ := r
    obtain rfl : q2 = [] := h2
    obtain ⟨a, vs, rfl, ga, ra⟩ := h1.lst R.gh
    exact ⟨_, _, rfl, .inl ⟨vs, SqL.of ga, rfl⟩, by rw [ra.len]; exact fin rfl⟩
  · rw [Option.map_eq_some_iff] at e
    obtain ⟨l, e', rfl⟩ := e
    obtain ⟨v, q2, rfl, h1, h2⟩ := r
    obtain rfl : q2 = [] := h2
    obtain ⟨a, vs, rfl, ga, ra⟩ := h1.lst R.gh
    rw [allI_ok e' ra] at ga
    exact ⟨a, l, rfl, SqL.of ga, fin rfl⟩
  · split at e
    · cases e
      rename_i i l e'
      obtain ⟨v, q2, rfl, h1, h2⟩ := r
      obtain rfl : q2 = [] := h2
      obtain ⟨a, vs, rfl, ga, ra⟩ := h1.lst R.gh
      rw [allI_ok e' ra] at ga
      refine .inl ⟨a, i :: l, rfl, SqL.of ga, by simp, fun m hm hy => ?_⟩
      have h3 := maxI_ok l i
      have : m = maxI i l := by have := hy _ h3.1; have := h3.2 _ hm; omega
      rw [this]; exact fin rfl
    · cases e
  · split at e
    · cases e
      rename_i i l e'
      obtain ⟨v, q2, rfl, h1, h2⟩ := r
      obtain rfl : q2 = [] := h2
      obtain ⟨a, vs, rfl, ga, ra⟩ := h1.lst R.gh
      rw [allI_ok e' ra] at ga
      refine .inl ⟨a, i :: l, rfl, SqL.of ga, by simp, fun m hm hy => ?_⟩
      have h3 := minI_ok l i
      have : m = minI i l := by have := hy _ h3.1; have := h3.2 _ hm; omega
      rw [this]; exact fin rfl
    · cases e
  · cases e
    obtain ⟨v, q2, rfl, h1, w, q3, rfl, h2, h3⟩ := r
    obtain rfl : q3 = [] := h3
    rw [h1.int, h2.int]
    exact .inr ⟨_, _, rfl, fin rfl⟩
  · cases e
    obtain ⟨v, q2, rfl, h1, w, q3, rfl, h2, h3⟩ := r
    obtain rfl : q3 = [] := h3
    rw [h1.int, h2.int]
    exact .inr ⟨_, _, rfl, fin rfl⟩
  · cases e
    obtain ⟨v, q2, rfl, h1, h2⟩ := r
    obtain rfl : q2 = [] := h2
    rw [h1.int]
    exact ⟨_, rfl, fin rfl⟩
  · cases e
    obtain ⟨v, q2, rfl, h1, h2⟩ := r
    obtain rfl : q2 = [] := h2
    rw [h1.int]
    exact .inl ⟨_, rfl, fin rfl⟩
  · cases e
    obtain ⟨v, q2, rfl, h1, h2⟩ := r
    obtain rfl : q2 = [] := h2
    rw [h1.bl]
    exact .inr ⟨_, rfl, fin rfl⟩
  · cases e
    obtain ⟨v, q2, rfl, h1, h2⟩ := r
    obtain rfl : q2 = [] := h2
    obtain ⟨a, vs, rfl, ga, ra⟩ := h1.tup.tupV
    exact ⟨a, vs, rfl, .inr ⟨SqT.of (R.gh _ _ ga), fin (Rep.tupI ga ra)⟩⟩
  · cases e
    obtain ⟨v, q2, rfl, h1, h2⟩ := r
    obtain rfl : q2 = [] := h2
    obtain ⟨a, vs, rfl, ga, ra⟩ := h1.lst R.gh
    exact ⟨a, vs, rfl, .inl ⟨SqL.of ga, fun l n => q _ _ _ (Sub.upd (R.gnone n)) (Keep.new n) (R.newS n) (Rep.tupI upd_same (Reps.mono (Sub.upd (R.gnone n)) _ _ ra))⟩⟩
  · cases e
    obtain ⟨v, q2, rfl, h1, h2⟩ := r
    obtain rfl : q2 = [] := h2
    obtain ⟨a, vs, rfl, ga, ra⟩ := h1.tup.tupV
    exact ⟨a, vs, rfl, .inr (SqT.of (R.gh _ _ ga)), fun l n => q _ _ _ Sub.refl (Keep.new n) (R.newP n) (Fr.mk' R n ra)⟩
  · cases e
    obtain ⟨v, q2, rfl, h1, h2⟩ := r
    obtain rfl : q2 = [] := h2
    obtain ⟨a, vs, rfl, ga, ra⟩ := h1.lst R.gh
    exact ⟨a, vs, rfl, .inl (SqL.of ga), fun l n => q _ _ _ Sub.refl (Keep.new n) (R.newP n) (Fr.mk' R n ra)⟩
  · rw [Option.map_eq_some_iff] at e
    obtain ⟨l, e', rfl⟩ := e
    obtain ⟨v, q2, rfl, h1, h2⟩ := r
    obtain rfl : q2 = [] := h2
    obtain ⟨a, vs, rfl, ga, ra⟩ := h1.lst R.gh
    rw [allB_ok e' ra] at ga
    exact ⟨a, l, rfl, SqL.of ga, fin rfl⟩
  · rw [Option.map_eq_some_iff] at e
    obtain ⟨l, e', rfl⟩ := e
    obtain ⟨v, q2, rfl, h1, h2⟩ := r
    obtain rfl : q2 = [] := h2
    obtain ⟨a, vs, rfl, ga, ra⟩ := h1.lst R.gh
    rw [allB_ok e' ra] at ga
    exact ⟨a, l, rfl, SqL.of ga, fin rfl⟩

/-! ### items and slices -/
theorem Reps.atI {ds : List D} {vs : List V} {i : Int} {d : D} (r : Reps a0 G ds vs) (e : L2.atI ds i = some d) : ∃ v, L2.atI vs i = some v ∧ Rep a0 G d v := by
  unfold L2.atI at e ⊢
  rw [r.len]
  cases h : ixN ds.length i with
  | none => rw [h] at e; cases e
  | some j => rw [h] at e; exact r.get e
def rIxS2 (K : PySem.W.Frag) : R2 := fun x y H Q => rIxL K x y H Q ∨ rIxT K x y H Q
theorem ixS2 : IxR X (rIxS2 X.K) := ix_list.or ix_tup
theorem ix_ok {x y d : D} {u v : V} {Q : VK} (R : RE a0 c0 F G ρ σ H t) (e : ixF x y = some d) (rx : Res a0 c0 G H true x u) (ry : Res a0 c0 G H true y v)
    (q : ∀ w, Rep a0 G d w → Q w H) : rIxS2 X.K u v H Q := by
  unfold ixF at e
  split at e
  · obtain ⟨a, vs, rfl, ga, ra⟩ := rx.tup.tupV
    obtain ⟨w, h1, h2⟩ := ra.atI e
    rw [ry.int]
    exact .inr ⟨a, vs, _, w, rfl, rfl, SqT.of (R.gh _ _ ga), h1, q w h2⟩
  · obtain ⟨a, vs, rfl, ga, ra⟩ := rx.lst R.gh
    obtain ⟨w, h1, h2⟩ := ra.atI e
    rw [ry.int]
    exact .inl ⟨a, vs, _, w, rfl, rfl, SqL.of ga, h1, q w h2⟩
  · cases e
theorem Reps.cut {ds : List D} {vs : List V} (r : Reps a0 G ds vs) (lo hi : Option Int) : Reps a0 G (cut ds lo hi) (cutV vs lo hi) := by
  unfold Ev.cut cutV
  rw [r.len]
  exact (r.drop _).take _
def rSl (K : PySem.W.Frag) : V → Option Int → Option Int → Hp → VK → Prop := fun x lo hi H Q => rSlA K x lo hi H Q ∨ rSlL K x lo hi H Q
theorem slR : SlR X (rSl X.K) := sl_tupA.or sl_list
theorem cut_all {α : Type} {xs : List α} {lo hi : Option Int} (h : HT.sIx xs.length 0 lo = 0 ∧ HT.sIx xs.length xs.length hi = xs.length) : cut xs lo hi = xs := by
  unfold cut
  rw [h.1, h.2, List.drop_zero, Nat.sub_zero, List.take_length]
theorem sl_ok {x d : D} {lo hi : Option Int} {u : V} {Q : VK} (R : RE a0 c0 F G ρ σ H t) (e : slF x lo hi = some d) (rx : Res a0 c0 G H true x u)
    (q : Post a0 c0 F G ρ σ H t (ResG a0 c0 F ρ σ d) Q) : rSl X.K u lo hi H Q := by
  unfold slF at e
  split at e
  · cases e
    obtain ⟨a, vs, rfl, ga, ra⟩ := rx.tup.tupV
    refine .inl ⟨a, vs, rfl, SqT.of (R.gh _ _ ga), fun h => ?_, fun h p n => ?_⟩
    · rw [ra.len] at h
      refine q _ H G Sub.refl Keep.refl R ?_
      show Rep a0 G (.tup (cut _ lo hi)) _
      rw [cut_all h]
      exact Rep.tupI ga ra
    · exact q _ _ _ (Sub.upd (R.gnone n)) (Keep.new n) (R.newS n) (Rep.tupI upd_same (Reps.mono (Sub.upd (R.gnone n)) _ _ (ra.cut lo hi)))
  · cases e
    obtain ⟨a, vs, rfl, ga, ra⟩ := rx.lst R.gh
    exact .inr ⟨a, vs, rfl, SqL.of ga, fun p n => q _ _ _ Sub.refl (Keep.new n) (R.newP n) (Fr.mk' R n (ra.cut lo hi))⟩
  · cases e

/-! ### slots -/
theorem RE.setV {i : Nat} {d : D} {v : V} (R : RE a0 c0 F G ρ σ H t) (r : Rep a0 G d v) : RE a0 c0 F G (ρ.set i (some (.val d))) (σ.set i (some v)) H t := by
  refine ⟨R.fh, R.gh, R.fg, R.st, fun j e h => ?_, fun j es h => ?_, fun j k es es' a h1 h2 h3 h4 => ?_, by simp [R.len]⟩
  · by_cases hj : i = j
    · subst hj
      by_cases hl : i < ρ.length
      · rw [List.getElem?_set_self hl] at h; cases h
        exact ⟨v, List.getElem?_set_self (by rw [R.len]; exact hl), r⟩
      · rw [List.getElem?_eq_none (by simpa using hl)] at h; cases h
    · rw [List.getElem?_set_ne hj] at h ⊢
      exact R.sh j e h
  · by_cases hj : i = j
    · subst hj
      by_cases hl : i < ρ.length
      · rw [List.getElem?_set_self hl] at h; cases h
      · rw [List.getElem?_eq_none (by simpa using hl)] at h; cases h
    · rw [List.getElem?_set_ne hj] at h ⊢
      exact R.ow j es h
  · have nj : ∀ {j : Nat} {es : List D}, (ρ.set i (some (Sl.val d)))[j]? = some (some (Sl.own es)) → i ≠ j := fun {j es} h z => by
      subst z
      by_cases hl : i < ρ.length
      · rw [List.getElem?_set_self hl] at h; cases h
      · rw [List.getElem?_eq_none (by simpa using hl)] at h; cases h
    have n1 := nj h1
    have n2 := nj h2
    rw [List.getElem?_set_ne n1] at h1 h3
    rw [List.getElem?_set_ne n2] at h2 h4
    exact R.inj j k es es' a h1 h2 h3 h4
theorem RE.setN {i : Nat} (R : RE a0 c0 F G ρ σ H t) : RE a0 c0 F G (ρ.set i none) (σ.set i none) H t := by
  have nn : ∀ {j : Nat} {x : Sl}, (ρ.set i none)[j]? = some (some x) → i ≠ j := fun {j x} h z => by
    subst z
    by_cases hl : i < ρ.length
    · rw [List.getElem?_set_self hl] at h; cases h
    · rw [List.getElem?_eq_none (by simpa using hl)] at h; cases h
  refine ⟨R.fh, R.gh, R.fg, R.st, fun j e h => ?_, fun j es h => ?_, fun j k es es' a h1 h2 h3 h4 => ?_, by simp [R.len]⟩
  · have := nn h
    rw [List.getElem?_set_ne this] at h ⊢
    exact R.sh j e h
  · have := nn h
    rw [List.getElem?_set_ne this] at h ⊢
    exact R.ow j es h
  · have n1 := nn h1
    have n2 := nn h2
    rw [List.getElem?_set_ne n1] at h1 h3
    rw [List.getElem?_set_ne n2] at h2 h4
    exact R.inj j k es es' a h1 h2 h3 h4
theorem RE.wipe (R : RE a0 c0 F G ρ σ H t) : ∀ vs : List Nat, RE a0 c0 F G (wipeE ρ vs) (wipe σ vs) H t
  | [] => R
  | v :: vs => (R.wipe vs).setN

/-! ### targets -/
def T.sl : T → List Nat
  | .nm i => [i]
  | .tp is => is
/-- only these slots have changed -/
def OnlyS (is : List Nat) (σ σ' : L2.St) : Prop := σ'.length = σ.length ∧ ∀ j, j ∉ is → σ'[j]? = σ[j]?
theorem OnlyS.wipe {is own : List Nat} {σ σ' : L2.St} (h : OnlyS is σ σ') (hs : ∀ i ∈ is, i ∈ own) : L2.wipe σ' own = L2.wipe σ own := by
  refine List.ext_getElem? fun j => ?_
  by_cases hj : j ∈ own
  · have e : ∀ τ : L2.St, (L2.wipe τ own)[j]? = if j < τ.length then some none else none := fun τ => by
      by_cases hl : j < τ.length
      · rw [if_pos hl]
        have hl2 : j < (L2.wipe τ own).length := by rw [wipe_length]; exact hl
        rw [List.getElem?_eq_getElem hl2]
        cases q : (L2.wipe τ own)[j] with
        | none => rfl
        | some x =>
          have := (wipe_some (σ := τ) (i := j) (x := x) (vs := own) (by rw [List.getElem?_eq_getElem hl2, q])).2
          exact absurd hj this
      · rw [if_neg hl]
        exact List.getElem?_eq_none (by rw [wipe_length]; omega)
    rw [e, e, h.1]
  · rw [wipe_out hj, wipe_out hj]
    exact h.2 j fun z => hj (hs j z)
def gT (tg : T) : TG := fun v σ H Q => ∃ a0 c0 F G ρ t d ρ', RE a0 c0 F G ρ σ H t ∧ Rep a0 G d v ∧ asgT tg d ρ = some ρ' ∧ ∀ σ', RE a0 c0 F G ρ' σ' H t → OnlyS tg.sl σ σ' → Q σ' H
def gTs (is : List Nat) : TGs := fun vs σ H Q => ∃ a0 c0 F G ρ t ds ρ', RE a0 c0 F G ρ σ H t ∧ Reps a0 G ds vs ∧ setAll is ds ρ = some ρ' ∧ ∀ σ', RE a0 c0 F G ρ' σ' H t → OnlyS is σ σ' → Q σ' H
theorem PG.imp {e : Expr} {g g' : TG} (h : PG X e g) (hi : ∀ v σ H Q, g' v σ H Q → g v σ H Q) : PG X e g' := ⟨fun pins s σ H v u Q I r q => h.run pins s σ H v u Q I r (hi v σ H Q q)⟩
theorem PGs.imp {e : List Expr} {g g' : TGs} (h : PGs X e g) (hi : ∀ v σ H Q, g' v σ H Q → g v σ H Q) : PGs X e g' := ⟨fun pins s σ H v u Q I r q => h.run pins s σ H v u Q I r (hi v σ H Q q)⟩
theorem OnlyS.set {i : Nat} {v : Option V} {σ : L2.St} : OnlyS [i] σ (σ.set i v) := ⟨by simp, fun j hj => List.getElem?_set_ne (by simpa using Ne.symm (by simpa using hj))⟩
/-- may be stored to -/
def Sto (X : Cx) (x : Str) : Prop := X.env.scope.names.lookup x = some .local ∨ (X.env.scope.names.lookup x = some .cell ∧ X.fn x = true)
theorem g_nm {i : Nat} {x : Str} {pos : Pos} (nd : X.N.Nodup) (hi : X.N[i]? = some x) (hx : Sto X x) : PG X (.Name x pos) (gT (.nm i)) := by
  refine PG.imp (pg_name nd hi (hx.imp id (·.1)) (hx.symm.imp (·.2) id)) ?_
  rintro v σ H Q ⟨a0, c0, F, G, ρ, t, d, ρ', R, r, e, q⟩
  cases e
  exact q _ (R.setV r) OnlyS.set
inductive Nms (X : Cx) : List Nat → List Expr → Prop where
  | nil : Nms X [] []
  | cons {i : Nat} {x : Str} {pos : Pos} {is : List Nat} {es : List Expr} : X.N[i]? = some x → Sto X x → Nms X is es → Nms X (i :: is) (.Name x pos :: es)
theorem Nms.len {is : List Nat} {es : List Expr} (h : Nms X is es) : (assignEach es X.env).length = is.length ∧ (assignEach es X.env).findIdx? (·.1) = none := by
  induction h with
  | nil => exact ⟨rfl, rfl⟩
  | cons _ _ _ ih =>
    refine ⟨?_, ?_⟩
    · show (_ :: assignEach _ X.env).length = _
      rw [List.length_cons, ih.1]; rfl
    · show ((false, _) :: assignEach _ X.env).findIdx? (·.1) = none
      rw [List.findIdx?_cons, ih.2]; rfl
theorem g_nms (nd : X.N.Nodup) {is : List Nat} {es : List Expr} (h : Nms X is es) : PGs X es (gTs is) := by
  induction h with
  | nil =>
    refine PGs.imp pgs_nil ?_
    rintro vs σ H Q ⟨a0, c0, F, G, ρ, t, ds, ρ', R, r, e, q⟩
    cases ds with
    | nil => cases e; exact ⟨r.inv_nil, q _ R ⟨rfl, fun _ _ => rfl⟩⟩
    | cons d ds => cases e
  | @cons i x pos is es hi hx hh ih =>
    refine PGs.imp (pgs_cons (g_nm nd hi hx) ih rfl) ?_
    rintro vs σ H Q ⟨a0, c0, F, G, ρ, t, ds, ρ', R, r, e, q⟩
    cases ds with
    | nil => cases e
    | cons d ds =>
      obtain ⟨v, w, rfl, h1, h2⟩ := r.inv_cons
      refine ⟨v, w, rfl, a0, c0, F, G, ρ, t, d, _, R, h1, rfl, fun σ' R' o1 => ⟨a0, c0, F, G, _, t, ds, ρ', R', h2, e, fun σ2 R2 o2 => q σ2 R2 ⟨o2.1.trans o1.1, fun j hj => ?_⟩⟩⟩
      simp only [List.mem_cons, not_or] at hj
      rw [o2.2 j hj.2, o1.2 j (by simpa [T.sl] using hj.1)]
theorem g_tp (hc : X.calm = true) (nd : X.N.Nodup) {is : List Nat} {es : List Expr} {k : Nat} {pos : Pos} (h : Nms X is es) : PG X (.Tuple es k pos) (gT (.tp is)) := by
  have hl := h.len
  refine PG.imp (pg_tup (n := is.length) hc (g_nms nd h) hl.1 hl.2) ?_
  rintro v σ H Q ⟨a0, c0, F, G, ρ, t, d, ρ', R, r, e, q⟩
  cases d with
  | tup ds =>
    obtain ⟨a, vs, rfl, ga, ra⟩ := r.tupV
    have e' : setAll is ds ρ = some ρ' := e
    have hlen : ∀ (is : List Nat) (ds : List D) (ρ ρ' : EnvD), setAll is ds ρ = some ρ' → ds.length = is.length := by
      intro is
      induction is with
      | nil => intro ds ρ ρ' h; cases ds with
        | nil => rfl
        | cons => cases h
      | cons i is ih => intro ds ρ ρ' h; cases ds with
        | nil => cases h
        | cons d ds => simp [ih ds _ _ h]
    exact ⟨a, vs, rfl, SqT.of (R.gh _ _ ga), by rw [ra.len]; exact hlen _ _ _ _ e', a0, c0, F, G, ρ, t, ds, ρ', R, ra, e', q⟩
  | _ => cases e

/-! ### what is walked -/
/-- a thing that must stand while it is walked -/
def Stand : Option (Addr × HO) → Hp → Prop
  | none, _ => True
  | some (a, o), H => H a = some o
structure Walks (J : It) (st : Option (Addr × HO)) (vs : List V) : Prop where
  go : ∀ i H, i < vs.length → Stand st H → J.go i H
  yld : ∀ i H x H', i < vs.length → Stand st H → J.yld i H x H' → H' = H ∧ vs[i]? = some x
  stop : ∀ H, Stand st H → J.stop vs.length H
theorem walks_list {K : PySem.W.Frag} {a : Addr} {vs : List V} : Walks (Itl K a) (some (a, .lst vs)) vs :=
  ⟨fun i H h s => ⟨vs, vs[i], SqL.of s, by simp [h]⟩, fun i H x H' _ s y => ⟨y.1, y.2 vs (SqL.of s)⟩, fun H s => ⟨vs, SqL.of s, Nat.le_refl _⟩⟩
theorem walks_tup {K : PySem.W.Frag} {a : Addr} {vs : List V} : Walks (Itt K a) (some (a, .tup vs)) vs :=
  ⟨fun i H h s => ⟨vs, vs[i], SqT.of s, by simp [h]⟩, fun i H x H' _ s y => ⟨y.1, y.2 vs (SqT.of s)⟩, fun H s => ⟨vs, SqT.of s, Nat.le_refl _⟩⟩
theorem walks_rng {lo : Int} {n : Nat} : Walks (Itr lo n) none ((List.range n).map fun (k : Nat) => V.int (lo + k)) := by
  refine ⟨fun i H h s => (show i < n by simpa using h), fun i H x H' hi s y => ⟨y.1, ?_⟩, fun H s => by simp [Itr]⟩
  have hi' : i < n := by simpa using hi
  rw [y.2]
  simp [hi']
theorem walks_rngC {lo : Int} {n : Nat} : Walks (Itc lo (-1) n) none ((List.range n).map fun (k : Nat) => V.int (lo - k)) := by
  refine ⟨fun i H h s => (show i < n by simpa using h), fun i H x H' hi s y => ⟨y.1, ?_⟩, fun H s => by simp [Itc]⟩
  have hi' : i < n := by simpa using hi
  rw [y.2]
  simp [hi']
  omega
theorem Reps.ints {f : Nat → Int} : ∀ l : List Nat, Reps a0 G (l.map fun k => .int (f k)) (l.map fun k => V.int (f k))
  | [] => .nil
  | k :: l => .cons rfl (Reps.ints l)
end
end Ev

/-! Ev4: the check of a syntax tree against the program's text, and what it gives. -/
namespace Ev
open PySem PySem.Spec PyProof.Rows L2

/-- no star, no written set, no slice by itself -/
def plainX : Expr → Bool
  | .Starred .. => false
  | .Set .. => false
  | .Slice .. => false
  | _ => true
def isK (sc : Scope) (x : Str) (k : NameKind) : Bool := decide (sc.names.lookup x = some k)
def visB (sc : Scope) (x : Str) : Bool := (isK sc x .local || (isK sc x .cell || isK sc x .free)) && (decide ((x == ("__debug__" : Str)) = false) && decide ((x == ("__classdict__" : Str)) = false))
def gloB (sc : Scope) (x : Str) : Bool := isK sc x .globalImplicit && decide ((x == ("__debug__" : Str)) = false)
def chkNms (N : List Str) (sc : Scope) : List Nat → List Expr → Bool
  | [], [] => true
  | i :: is, .Name x _ :: es => decide (N[i]? = some x) && ((isK sc x .local || isK sc x .cell) && chkNms N sc is es)
  | _, _ => false
def chkT (N : List Str) (sc : Scope) : T → Expr → Bool
  | .nm i, .Name x _ => decide (N[i]? = some x) && (isK sc x .local || isK sc x .cell)
  | .tp is, .Tuple es _ _ => chkNms N sc is es
  | _, _ => false
def E.isRng : E → Bool
  | .rng _ => true
  | _ => false
mutual
def chk (gi : List (Str × Int)) (fns : List Str) (N : List Str) : E → Scope → Bool → Expr → Bool
  | .var i, sc, _, .Name x _ => decide (N[i]? = some x) && visB sc x
  | .int i, _, _, .Constant (.int j) _ _ => decide (i = j)
  | .str s, _, _, .Constant (.str y) _ _ => decide (s = y)
  | .bl k, _, _, .Constant (.bool j) _ _ => k == j
  | .non, _, _, .Constant .none _ _ => true
  | .gint j i, sc, _, .Name x _ => decide (gi[j]? = some (x, i)) && gloB sc x
  | .tup es, sc, _, .Tuple xs _ _ => chkEs gi fns N es sc xs
  | .lst es, sc, _, .List xs _ => chkEs gi fns N es sc xs
  | .bin op a b, sc, _, .BinOp x o y _ => decide (o = op.op) && (chk gi fns N a sc false x && chk gi fns N b sc false y)
  | .neg a, sc, _, .UnaryOp .USub x _ => chk gi fns N a sc false x
  | .not a, sc, m, .UnaryOp .Not x _ => chk gi fns N a sc m x
  | .and a b, sc, m, .BoolOp .And [x, y] _ => chk gi fns N a sc m x && chk gi fns N b sc m y
  | .and a b, sc, m, .BoolOp .And (x :: y :: z :: r) p => chk gi fns N a sc m x && chk gi fns N b sc m (.BoolOp .And (y :: z :: r) p)
  | .or a b, sc, m, .BoolOp .Or [x, y] _ => chk gi fns N a sc m x && chk gi fns N b sc m y
  | .or a b, sc, m, .BoolOp .Or (x :: y :: z :: r) p => chk gi fns N a sc m x && chk gi fns N b sc m (.BoolOp .Or (y :: z :: r) p)
  | .cmp op a b, sc, _, .Compare x [o] [y] _ => decide (o = op) && (plainX y && (chk gi fns N a sc false x && chk gi fns N b sc false y))
  | .chn o p a b c, sc, _, .Compare x [o', p'] [y, z] _ => decide (o' = o ∧ p' = p) && (plainX z && (chk gi fns N a sc false x && (chk gi fns N b sc false y && chk gi fns N c sc false z)))
  | .ite c a b, sc, m, .IfExp z x y _ => !m && (chk gi fns N c sc true z && (chk gi fns N a sc false x && chk gi fns N b sc false y))
  | .call f es, sc, _, .Call (.Name x _) xs [] _ => decide (fns[f]? = some x) && (gloB sc x && chkEs gi fns N es sc xs)
  | .blt f (.cons e es), sc, _, .Call (.Name x _) (y :: ys) [] _ => decide (x = f.nm) && (isK sc x .globalImplicit && (plainX y && (chk gi fns N e sc false y && chkEs gi fns N es sc ys)))
  | .ix a i, sc, _, .Subscript x y _ => plainX y && (chk gi fns N a sc false x && chk gi fns N i sc false y)
  | .sl a lo hi, sc, _, .Subscript x (.Slice l h none _) _ => chk gi fns N a sc false x && ((match lo.isNil, l with
      | true, none => true
      | false, some y => chk gi fns N lo sc false y
      | _, _ => false) && (match hi.isNil, h with
      | true, none => true
      | false, some y => chk gi fns N hi sc false y
      | _, _ => false))
  | .rev a, sc, _, .Subscript x (.Slice none none (some (.UnaryOp .USub (.Constant (.int 1) _ _) _)) _) _ => chk gi fns N a sc false x
  | .comp own tg (.rng es) c e, sc, _, .ListComp elt [⟨t, .Call (.Name x _) xs [] _, ifs, 0⟩] scope _ => blkC N sc scope own && (chkT N scope tg t && (decide (∀ k ∈ tg.sl, k ∈ own.map (·.2)) && (decide (x = ("range" : Str)) && (isK sc x .globalImplicit && (chkEs gi fns N es sc xs &&
      ((match c.isNil, ifs with
      | true, [] => true
      | false, [z] => chk gi fns N c (relS scope sc) true z
      | _, _ => false) && chk gi fns N e (relS scope sc) false elt))))))
  | .comp own tg it c e, sc, _, .ListComp elt [⟨t, i, ifs, 0⟩] scope _ => blkC N sc scope own && (chkT N scope tg t && (decide (∀ k ∈ tg.sl, k ∈ own.map (·.2)) && (!it.isRng && (chk gi fns N it sc false i &&
      ((match c.isNil, ifs with
      | true, [] => true
      | false, [z] => chk gi fns N c (relS scope sc) true z
      | _, _ => false) && chk gi fns N e (relS scope sc) false elt)))))
  | _, _, _, _ => false
def chkEs (gi : List (Str × Int)) (fns : List Str) (N : List Str) : E → Scope → List Expr → Bool
  | .nil, _, [] => true
  | .cons e es, sc, x :: xs => plainX x && (chk gi fns N e sc false x && chkEs gi fns N es sc xs)
  | _, _, _ => false
end

variable (gi : List (Str × Int)) (fns : List Str) (N : List Str)
mutual
inductive Chk : Scope → Bool → Expr → E → Prop where
  | var {sc m i x p} : N[i]? = some x → visB sc x = true → Chk sc m (.Name x p) (.var i)
  | int {sc m i k p} : Chk sc m (.Constant (.int i) k p) (.int i)
  | str {sc m s k p} : Chk sc m (.Constant (.str s) k p) (.str s)
  | bl {sc m b k p} : Chk sc m (.Constant (.bool b) k p) (.bl b)
  | non {sc m k p} : Chk sc m (.Constant .none k p) .non
  | gint {sc m j i x p} : gi[j]? = some (x, i) → gloB sc x = true → Chk sc m (.Name x p) (.gint j i)
  | tup {sc m es xs k p} : ChkEs sc xs es → Chk sc m (.Tuple xs k p) (.tup es)
  | lst {sc m es xs p} : ChkEs sc xs es → Chk sc m (.List xs p) (.lst es)
  | bin {sc m a b op x y p} : Chk sc false x a → Chk sc false y b → Chk sc m (.BinOp x op.op y p) (.bin op a b)
  | neg {sc m a x p} : Chk sc false x a → Chk sc m (.UnaryOp .USub x p) (.neg a)
  | not {sc m a x p} : Chk sc m x a → Chk sc m (.UnaryOp .Not x p) (.not a)
  | and1 {sc m a b x y p} : Chk sc m x a → Chk sc m y b → Chk sc m (.BoolOp .And [x, y] p) (.and a b)
  | and {sc m a b x y z r p} : Chk sc m x a → Chk sc m (.BoolOp .And (y :: z :: r) p) b → Chk sc m (.BoolOp .And (x :: y :: z :: r) p) (.and a b)
  | or1 {sc m a b x y p} : Chk sc m x a → Chk sc m y b → Chk sc m (.BoolOp .Or [x, y] p) (.or a b)
  | or {sc m a b x y z r p} : Chk sc m x a → Chk sc m (.BoolOp .Or (y :: z :: r) p) b → Chk sc m (.BoolOp .Or (x :: y :: z :: r) p) (.or a b)
  | cmp {sc m op a b x y p} : plainX y = true → Chk sc false x a → Chk sc false y b → Chk sc m (.Compare x [op] [y] p) (.cmp op a b)
  | chn {sc m o o' a b c x y z p} : plainX z = true → Chk sc false x a → Chk sc false y b → Chk sc false z c → Chk sc m (.Compare x [o, o'] [y, z] p) (.chn o o' a b c)
  | ite {sc a b c x y z p} : Chk sc true z c → Chk sc false x a → Chk sc false y b → Chk sc false (.IfExp z x y p) (.ite c a b)
  | call {sc m f es x p q xs} : fns[f]? = some x → gloB sc x = true → ChkEs sc xs es → Chk sc m (.Call (.Name x p) xs [] q) (.call f es)
  | blt {sc m f e es y ys p q} : isK sc f.nm .globalImplicit = true → ChkEs sc (y :: ys) (.cons e es) → Chk sc m (.Call (.Name f.nm p) (y :: ys) [] q) (.blt f (.cons e es))
  | ix {sc m a i x y p} : plainX y = true → Chk sc false x a → Chk sc false y i → Chk sc m (.Subscript x y p) (.ix a i)
  | sl {sc m a lo hi x l h p q} : Chk sc false x a → ChkO sc l lo → ChkO sc h hi → Chk sc m (.Subscript x (.Slice l h none p) q) (.sl a lo hi)
  | rev {sc m a x k p1 p2 p3 q} : Chk sc false x a → Chk sc m (.Subscript x (.Slice none none (some (.UnaryOp .USub (.Constant (.int 1) k p1) p2)) p3) q) (.rev a)
  | comp {sc m own tg it c e elt t i ifs scope q} : blkC N sc scope own = true → chkT N scope tg t = true → (∀ k ∈ tg.sl, k ∈ own.map (·.2)) → ChkI sc i it → ChkC (relS scope sc) ifs c → Chk (relS scope sc) false elt e →
      Chk sc m (.ListComp elt [⟨t, i, ifs, 0⟩] scope q) (.comp own tg it c e)
inductive ChkEs : Scope → List Expr → E → Prop where
  | nil {sc} : ChkEs sc [] .nil
  | cons {sc x xs e es} : plainX x = true → Chk sc false x e → ChkEs sc xs es → ChkEs sc (x :: xs) (.cons e es)
inductive ChkO : Scope → Option Expr → E → Prop where
  | nil {sc e} : e.isNil = true → ChkO sc none e
  | some {sc x e} : e.isNil = false → Chk sc false x e → ChkO sc (some x) e
inductive ChkI : Scope → Expr → E → Prop where
  | rng {sc p q xs es} : isK sc "range" .globalImplicit = true → ChkEs sc xs es → ChkI sc (.Call (.Name "range" p) xs [] q) (.rng es)
  | e {sc i it} : it.isRng = false → Chk sc false i it → ChkI sc i it
inductive ChkC : Scope → List Expr → E → Prop where
  | nil {sc c} : c.isNil = true → ChkC sc [] c
  | one {sc z c} : c.isNil = false → Chk sc true z c → ChkC sc [z] c
end
mutual
theorem chk_ok : ∀ (e : E) (sc : Scope) (m : Bool) (pe : Expr), chk gi fns N e sc m pe = true → Chk gi fns N sc m pe e
  | e, sc, m, pe, h => by
    unfold chk at h
    split at h
    all_goals (try (cases h; done))
    all_goals (try simp only [Bool.and_eq_true, decide_eq_true_eq, Bool.not_eq_true', beq_iff_eq] at h)
    · exact .var h.1 h.2
    · subst h; exact .int
    · subst h; exact .str
    · subst h; exact .bl
    · exact .non
    · exact .gint h.1 h.2
    · exact .tup (chkEs_ok _ _ _ h)
    · exact .lst (chkEs_ok _ _ _ h)
    · obtain ⟨rfl, h1, h2⟩ := h; exact .bin (chk_ok _ _ _ _ h1) (chk_ok _ _ _ _ h2)
    · exact .neg (chk_ok _ _ _ _ h)
    · exact .not (chk_ok _ _ _ _ h)
    · exact .and1 (chk_ok _ _ _ _ h.1) (chk_ok _ _ _ _ h.2)
    · exact .and (chk_ok _ _ _ _ h.1) (chk_ok _ _ _ _ h.2)
    · exact .or1 (chk_ok _ _ _ _ h.1) (chk_ok _ _ _ _ h.2)
    · exact .or (chk_ok _ _ _ _ h.1) (chk_ok _ _ _ _ h.2)
    · obtain ⟨rfl, h0, h1, h2⟩ := h; exact .cmp h0 (chk_ok _ _ _ _ h1) (chk_ok _ _ _ _ h2)
    · obtain ⟨⟨rfl, rfl⟩, h0, h1, h2, h3⟩ := h; exact .chn h0 (chk_ok _ _ _ _ h1) (chk_ok _ _ _ _ h2) (chk_ok _ _ _ _ h3)
    · obtain ⟨rfl, h1, h2, h3⟩ := h; exact .ite (chk_ok _ _ _ _ h1) (chk_ok _ _ _ _ h2) (chk_ok _ _ _ _ h3)
    · exact .call h.1 h.2.1 (chkEs_ok _ _ _ h.2.2)
    · obtain ⟨rfl, h1, h2, h3, h4⟩ := h; exact .blt h1 (.cons h2 (chk_ok _ _ _ _ h3) (chkEs_ok _ _ _ h4))
    · exact .ix h.1 (chk_ok _ _ _ _ h.2.1) (chk_ok _ _ _ _ h.2.2)
    · rename_i a lo hi _ _ x l hh p q
      obtain ⟨h1, h2, h3⟩ := h
      refine .sl (chk_ok _ _ _ _ h1) ?_ ?_
      · split at h2
        · rename_i e; exact .nil e
        · rename_i e; exact .some e (chk_ok _ _ _ _ h2)
        · cases h2
      · split at h3
        · rename_i e; exact .nil e
        · rename_i e; exact .some e (chk_ok _ _ _ _ h3)
        · cases h3
    · exact .rev (chk_ok _ _ _ _ h)
    · obtain ⟨h1, h2, h3, rfl, h5, h6, h7, h8⟩ := h
      refine .comp h1 h2 h3 (.rng h5 (chkEs_ok _ _ _ h6)) ?_ (chk_ok _ _ _ _ h8)
      split at h7
      · rename_i e; exact .nil e
      · rename_i e; exact .one e (chk_ok _ _ _ _ h7)
      · cases h7
    · obtain ⟨h1, h2, h3, h4, h5, h7, h8⟩ := h
      refine .comp h1 h2 h3 (.e h4 (chk_ok _ _ _ _ h5)) ?_ (chk_ok _ _ _ _ h8)
      split at h7
      · rename_i e; exact .nil e
      · rename_i e; exact .one e (chk_ok _ _ _ _ h7)
      · cases h7
theorem chkEs_ok : ∀ (es : E) (sc : Scope) (xs : List Expr), chkEs gi fns N es sc xs = true → ChkEs gi fns N sc xs es
  | es, sc, xs, h => by
    unfold chkEs at h
    split at h
    · exact .nil
    · simp only [Bool.and_eq_true] at h
      exact .cons h.1 (chk_ok _ _ _ _ h.2.1) (chkEs_ok _ _ _ h.2.2)
    · cases h
end
end Ev

/-! Ev5: each expression's rule, over the check. -/
namespace Ev
open PySem PySem.Spec PyProof.Rows L2

/-- what a def promises: the evaluator's answer -/
def spF (call : Nat → List D → DS → R D) (f : Nat) : Sp := fun vs H Q _ => ∃ a0 c0 F G ds t d t', Sub F H ∧ Sub G H ∧ (∀ b o, F b = some o → G b = none) ∧ StOk a0 c0 F G H t ∧ Reps a0 G ds vs ∧ call f ds t = some (d, t') ∧
  ∀ v H' G', Sub G G' → Sub F H' → Sub G' H' → (∀ b o, F b = some o → G' b = none) → StOk a0 c0 F G' H' t' → Rep a0 G' d v → Q v H'
/-- what the def's context tells -/
structure Ok (call : Nat → List D → DS → R D) (gi : List (Str × Int)) (fns : List Str) (k : Nat) (X : Cx) : Prop where
  calm : X.calm = true
  nd : X.N.Nodup
  hr : Room k X.A
  pass : PassesOwn (model X.prog X.w) X.A X.env X.xe
  gi : ∀ (j : Nat) (x : Str) (i : Int), gi[j]? = some (x, i) → ∃ t, X.mg x = some (.int i t)
  bn : ∀ f : B, X.mg f.nm = none
  rg : X.mg "range" = none
  fn : ∀ (f : Nat) (x : Str), fns[f]? = some x → ∃ a fd ps, X.mg x = some (.ref a) ∧ PySem.W.keepIn X.K (.ref a) = true ∧ Binds X.K fd ps [] ∧ FnOk X.prog X.w X.K X.mg X.base CX0 k a fd ps (spF call f)
section
variable {call : Nat → List D → DS → R D} {gi : List (Str × Int)} {fns : List Str} {k : Nat} {X : Cx} {a0 c0 : Addr} {F G G' H H' : Hp} {ρ ρ' : EnvD} {σ σ' : L2.St} {t t' : DS}
theorem Ok.blk (h : Ok call gi fns k X) (s : Shared) (H : Hp) (scope : Scope) (cenv : Env) (fp : List Addr) : Ok call gi fns k (X.blk s H scope cenv fp) :=
  ⟨h.calm, h.nd, h.hr, PassesOwn.never, h.gi, h.bn, h.rg, h.fn⟩
theorem PA.imp {e : List Expr} {te te' : TA} (h : PA X e te) (hi : ∀ σ H Q, te' σ H Q → te σ H Q) : PA X e te' := ⟨fun pos pins s σ H Q I q => h.run pos pins s σ H Q I (hi σ H Q q)⟩
theorem star_ok {x : Expr} {xs : List Expr} {env : Env} (h : plainX x = true) : starEach (x :: xs) env = (false, eval x env) :: starEach xs env := by
  cases x <;> first | rfl | cases h
theorem fold_ok {x : Expr} (h : plainX x = true) (env : Env) (y : Value) : foldedSetIterable x env y = pure y := by
  cases x <;> first | rfl | cases h
theorem marks_ok {x : Expr} {op : CmpOp} (h : plainX x = true) : behindInMarks op x = false := by
  cases x <;> first | rfl | cases h
theorem ixp_ok {x : Expr} (h : plainX x = true) : PlainIx x := by
  intro o i
  cases x <;> first | rfl | cases h
theorem isK_ok {sc : Scope} {x : Str} {q : NameKind} (h : isK sc x q = true) : sc.names.lookup x = some q := of_decide_eq_true h
theorem vis_ok {sc : Scope} {x : Str} (h : visB sc x = true) : Vis sc x ∧ (x == ("__debug__" : Str)) = false ∧ (x == ("__classdict__" : Str)) = false := by
  unfold visB at h
  simp only [Bool.and_eq_true, Bool.or_eq_true, decide_eq_true_eq] at h
  obtain ⟨h1, h2, h3⟩ := h
  exact ⟨h1.imp isK_ok (·.imp isK_ok isK_ok), h2, h3⟩
theorem glo_ok {sc : Scope} {x : Str} (h : gloB sc x = true) : sc.names.lookup x = some .globalImplicit ∧ (x == ("__debug__" : Str)) = false := by
  unfold gloB at h
  simp only [Bool.and_eq_true, decide_eq_true_eq] at h
  exact ⟨isK_ok h.1, h.2⟩
theorem chk_plain {N : List Str} {sc : Scope} {m : Bool} {pe : Expr} {e : E} (h : Chk gi fns N sc m pe e) : plainX pe = true := by
  cases h <;> rfl
theorem back_ok {pos : Pos} : ∀ l : List (Bool × Sem Value), l.any (·.1) = false → (backTo pos l).any (·.1) = false
  | [], _ => rfl
  | (b, x) :: l, h => by
    simp only [List.any_cons, Bool.or_eq_false_iff] at h
    show ((b, _) :: backTo pos l).any (·.1) = false
    simp only [List.any_cons, Bool.or_eq_false_iff]
    exact ⟨h.1, back_ok l h.2⟩
theorem any_ok {N : List Str} {sc : Scope} {xs : List Expr} {es : E} {env : Env} (h : ChkEs gi fns N sc xs es) : (starEach xs env).any (·.1) = false := by
  induction xs generalizing es with
  | nil => rfl
  | cons x xs ih =>
    cases h with
    | cons h1 h2 h3 =>
      rw [star_ok h1, List.any_cons, ih h3]
      rfl
theorem es_len {N : List Str} {sc : Scope} {xs : List Expr} {es : E} (h : ChkEs gi fns N sc xs es) : ∀ {b : Bool} {ρ : EnvD} {t t' : DS} {ds : List D}, evEs call es b ρ t = some (ds, t') → ds.length = xs.length := by
  induction xs generalizing es with
  | nil => intro b ρ t t' ds e; cases h; simp only [evEs] at e; cases e; rfl
  | cons x xs ih =>
    intro b ρ t t' ds e
    cases h with
    | cons h1 h2 h3 =>
      simp only [evEs] at e
      split at e
      · split at e
        · rename_i q; cases e; simp [ih h3 q]
        · cases e
      · cases e

/-! ### names, constants -/
theorem e_var {i : Nat} {x : Str} {p : Pos} (hN : X.N[i]? = some x) (hv : visB X.env.scope x = true) (b : Bool) : PE X (.Name x p) (tE call b (.var i)) := by
  obtain ⟨h1, h2, h3⟩ := vis_ok hv
  refine PE.imp (pe_var hN h1 h2 h3) ?_
  rintro σ H Q ⟨a0, c0, F, G, ρ, t, d, t', R, ev, q⟩
  simp only [evE] at ev
  split at ev
  · rename_i e
    cases ev
    obtain ⟨v, g1, g2⟩ := R.sh _ _ e
    exact ⟨v, g1, q v H G Sub.refl Keep.refl R (Res.of g2)⟩
  · rename_i e
    split at ev
    · cases ev
      rename_i hb
      subst hb
      obtain ⟨a, vs, g1, g2, g3, g4, g5, g6, g7⟩ := R.ow _ _ e
      exact ⟨_, g1, q _ H G Sub.refl Keep.refl R (.inr ⟨a, vs, _, rfl, rfl, g2, g5, g6, g7⟩)⟩
    · cases ev
  · cases ev
theorem e_const {c : D} {v : V} {e : E} {pe : Expr} (h : PE X pe (tC v)) (he : ∀ b ρ t, evE call e b ρ t = some (c, t)) (hr : ∀ a0 G, Rep a0 G c v) (b : Bool) : PE X pe (tE call b e) := by
  refine PE.imp h ?_
  rintro σ H Q ⟨a0, c0, F, G, ρ, t, d, t', R, ev, q⟩
  rw [he] at ev
  cases ev
  exact q v H G Sub.refl Keep.refl R (Res.of (hr a0 G))
/-! ### displays -/
theorem e_tup {es : E} {xs : List Expr} {n : Nat} {p : Pos} (h : PA X xs (tEs call false es)) (b : Bool) : PE X (.Tuple xs n p) (tE call b (.tup es)) := by
  refine PE.imp (pe_tup h) ?_
  rintro σ H Q ⟨a0, c0, F, G, ρ, t, d, t', R, ev, q⟩
  simp only [evE] at ev
  split at ev
  · rename_i ds t1 e
    split at ev
    · rename_i hz
      cases ev
      refine ⟨a0, c0, F, G, ρ, t, ds, _, R, e, fun vs H1 G1 s1 k1 R1 r1 => ⟨?_, fun p n => ?_⟩⟩
      · rw [r1.reps.len, sizeLine_eq]; exact hz
      · exact q _ _ _ (s1.trans (Sub.upd (R1.gnone n))) (k1.trans (Keep.new n)) (R1.newS n) (Res.of (Rep.tupI upd_same (Reps.mono (Sub.upd (R1.gnone n)) _ _ r1.reps)))
    · cases ev
  · cases ev
theorem g_lst {es : E} {xs : List Expr} {p : Pos} (h : PA X xs (tEs call false es)) : PE X (.List xs p) (tG call (.lst es)) := by
  refine PE.imp (pe_lst h) ?_
  rintro σ H Q ⟨a0, c0, F, G, ρ, t, d, t', R, ev, q⟩
  simp only [evE] at ev
  split at ev
  · rename_i ds t1 e
    split at ev
    · rename_i hz
      cases ev
      refine ⟨a0, c0, F, G, ρ, t, ds, _, R, e, fun vs H1 G1 s1 k1 R1 r1 => ⟨?_, fun p n => ?_⟩⟩
      · rw [r1.reps.len, sizeLine_eq]; exact hz
      · exact q _ _ _ s1 (k1.trans (Keep.new n)) (R1.newP n) (Fr.mk' R1 n r1.reps)
    · cases ev
  · cases ev
theorem a_nil (b : Bool) : PA X [] (tEs call b .nil) := by
  refine PA.imp pa_nil ?_
  rintro σ H Q ⟨a0, c0, F, G, ρ, t, ds, t', R, ev, q⟩
  simp only [evEs] at ev
  cases ev
  exact q [] H G Sub.refl Keep.refl R rfl
theorem a_cons {e es : E} {x : Expr} {xs : List Expr} (b : Bool) (hp : plainX x = true) (h : PE X x (tE call b e)) (h2 : PA X xs (tEs call b es)) : PA X (x :: xs) (tEs call b (.cons e es)) := by
  refine PA.imp (pa_cons h h2 (star_ok hp)) ?_
  rintro σ H Q ⟨a0, c0, F, G, ρ, t, ds, t', R, ev, q⟩
  simp only [evEs] at ev
  split at ev
  · rename_i d t1 e1
    split at ev
    · rename_i ds t2 e2
      cases ev
      exact ⟨a0, c0, F, G, ρ, t, d, t1, R, e1, fun v H1 G1 s1 k1 R1 r1 => ⟨a0, c0, F, G1, ρ, t1, ds, _, R1, e2, fun vs H2 G2 s2 k2 R2 r2 => q (v :: vs) H2 G2 (s1.trans s2) (k1.trans k2) R2 ⟨v, vs, rfl, r1.mono s2 k2, r2⟩⟩⟩
    · cases ev
  · cases ev
/-! ### operators -/
theorem g_bin {op : BOp} {a b : E} {x y : Expr} {p : Pos} (ha : PE X x (tE call true a)) (hb : PE X y (tE call true b)) : PE X (.BinOp x op.op y p) (tG call (.bin op a b)) := by
  refine PE.imp (pe_op (opBin op) ha hb) ?_
  rintro σ H Q ⟨a0, c0, F, G, ρ, t, d, t', R, ev, q⟩
  simp only [evE] at ev
  split at ev
  · rename_i e1
    split at ev
    · rename_i e2
      split at ev
      · rename_i e3
        cases ev
        exact op2 R e1 e2 fun u v H2 G2 s k R2 r1 r2 => bin_ok R2 e3 r1 r2 fun w H' G' s' k' R' z => q w H' G' (s.trans s') (k.trans k') R' z
      · cases ev
    · cases ev
  · cases ev
theorem e_neg {a : E} {x : Expr} {p : Pos} (ha : PE X x (tE call true a)) (b : Bool) : PE X (.UnaryOp .USub x p) (tE call b (.neg a)) := by
  refine PE.imp (pe_un un_neg ha) ?_
  rintro σ H Q ⟨a0, c0, F, G, ρ, t, d, t', R, ev, q⟩
  simp only [evE] at ev
  split at ev
  · rename_i e1
    cases ev
    exact op1 R e1 fun u H1 G1 s k R1 r => ⟨_, r.int, q _ H1 G1 s k R1 (Res.of rfl)⟩
  · cases ev
theorem e_not {a : E} {x : Expr} {p : Pos} (ha : PE X x (tE call true a)) (b : Bool) : PE X (.UnaryOp .Not x p) (tE call b (.not a)) := by
  refine PE.imp (pe_notT ha) ?_
  rintro σ H Q ⟨a0, c0, F, G, ρ, t, d, t', R, ev, q⟩
  simp only [evE] at ev
  split at ev
  · rename_i e1
    split at ev
    · rename_i e2
      cases ev
      exact op1 R e1 fun u H1 G1 s k R1 r => ⟨_, tru_of R1 e2 r, q _ H1 G1 s k R1 (Res.of rfl)⟩
    · cases ev
  · cases ev
theorem Res.weak {b : Bool} {d : D} {v : V} (h : Res a0 c0 G H b d v) : Res a0 c0 G H true d v := by
  cases b with
  | false => exact .inl h
  | true => exact h
theorem e_and {a b : E} {x y : Expr} {r : List Expr} {p : Pos} {m : Bool} (ha : PE X x (tE call m a)) (hb : PE X (.BoolOp .And (y :: r) p) (tE call m b)) : PE X (.BoolOp .And (x :: y :: r) p) (tE call m (.and a b)) := by
  refine PE.imp (pe_andT ha hb) ?_
  rintro σ H Q ⟨a0, c0, F, G, ρ, t, d, t', R, ev, q⟩
  simp only [evE] at ev
  split at ev
  · rename_i x1 t1 e1
    split at ev
    · rename_i e2
      exact ⟨a0, c0, F, G, ρ, t, x1, t1, R, e1, fun v H1 G1 s k R1 r1 => ⟨true, tru_of R1 e2 r1.weak, iteT ⟨a0, c0, F, G1, ρ, t1, d, t', R1, ev, fun w H2 G2 s2 k2 R2 r2 => q w H2 G2 (s.trans s2) (k.trans k2) R2 r2⟩⟩⟩
    · rename_i e2
      cases ev
      exact ⟨a0, c0, F, G, ρ, t, _, _, R, e1, fun v H1 G1 s k R1 r1 => ⟨false, tru_of R1 e2 r1.weak, iteF (q v H1 G1 s k R1 r1)⟩⟩
    · cases ev
  · cases ev
theorem e_or {a b : E} {x y : Expr} {r : List Expr} {p : Pos} {m : Bool} (ha : PE X x (tE call m a)) (hb : PE X (.BoolOp .Or (y :: r) p) (tE call m b)) : PE X (.BoolOp .Or (x :: y :: r) p) (tE call m (.or a b)) := by
  refine PE.imp (pe_orT ha hb) ?_
  rintro σ H Q ⟨a0, c0, F, G, ρ, t, d, t', R, ev, q⟩
  simp only [evE] at ev
  split at ev
  · rename_i x1 t1 e1
    split at ev
    · rename_i e2
      cases ev
      exact ⟨a0, c0, F, G, ρ, t, _, _, R, e1, fun v H1 G1 s k R1 r1 => ⟨true, tru_of R1 e2 r1.weak, iteT (q v H1 G1 s k R1 r1)⟩⟩
    · rename_i e2
      exact ⟨a0, c0, F, G, ρ, t, x1, t1, R, e1, fun v H1 G1 s k R1 r1 => ⟨false, tru_of R1 e2 r1.weak, iteF ⟨a0, c0, F, G1, ρ, t1, d, t', R1, ev, fun w H2 G2 s2 k2 R2 r2 => q w H2 G2 (s.trans s2) (k.trans k2) R2 r2⟩⟩⟩
    · cases ev
  · cases ev
theorem cmp_rd {op : CmpOp} {a b : E} {x1 y1 : D} {kk : Bool} {t1 t2 : DS} {Q : VK} (R : RE a0 c0 F G ρ σ H t) (e1 : evE call a true ρ t = some (x1, t1)) (e2 : evE call b true ρ t1 = some (y1, t2)) (e3 : cmpF op x1 y1 = some kk)
    (q : ∀ H2 G2, Sub G G2 → Keep a0 c0 H H2 → RE a0 c0 F G2 ρ σ H2 t2 → Q (.bl kk) H2) : tOp (rCmp X.K op) (tE call true a) (tE call true b) σ H Q :=
  op2 R e1 e2 fun u v H2 G2 s k R2 r1 r2 => cmp_ok R2 e3 r1 r2 (q H2 G2 s k R2)
theorem e_cmp {op : CmpOp} {a b : E} {x y : Expr} {p : Pos} (hu : X.A.units + 65 < cLine) (hp : plainX y = true) (ha : PE X x (tE call true a)) (hb : PE X y (tE call true b)) (m : Bool) : PE X (.Compare x [op] [y] p) (tE call m (.cmp op a b)) := by
  refine PE.imp (pe_cmpR (opCmp hu op) ha hb (marks_ok hp)) ?_
  rintro σ H Q ⟨a0, c0, F, G, ρ, t, d, t', R, ev, q⟩
  simp only [evE] at ev
  split at ev
  · rename_i e1
    split at ev
    · rename_i e2
      split at ev
      · rename_i e3
        cases ev
        exact cmp_rd R e1 e2 e3 fun H2 G2 s k R2 => q _ H2 G2 s k R2 (Res.of rfl)
      · cases ev
    · cases ev
  · cases ev
theorem t_cmp {op : CmpOp} {a b : E} {x y : Expr} {p : Pos} (hu : X.A.units + 65 < cLine) (hp : plainX y = true) (ha : PE X x (tE call true a)) (hb : PE X y (tE call true b)) : PT X (.Compare x [op] [y] p) (tT call (.cmp op a b)) := by
  refine PT.imp (pt_cmpR (opCmp hu op) ha hb (marks_ok hp)) ?_
  rintro σ H Q ⟨a0, c0, F, G, ρ, t, d, t', R, ev, q⟩
  simp only [evE] at ev
  split at ev
  · rename_i e1
    split at ev
    · rename_i e2
      split at ev
      · rename_i e3
        cases ev
        exact cmp_rd R e1 e2 e3 fun H2 G2 s k R2 => ⟨_, rfl, q H2 G2 s k R2⟩
      · cases ev
    · cases ev
  · cases ev
theorem lastMarks_ok {o o' : CmpOp} {y z : Expr} (h : plainX z = true) : lastMarks [o, o'] [y, z] = false := by
  show behindInMarks o' z = false
  exact marks_ok h
theorem chn_rd {o o' : CmpOp} {a b c : E} {Q : VK} {d : D} (R : RE a0 c0 F G ρ σ H t) (ev : evE call (.chn o o' a b c) true ρ t = some (d, t'))
    (q : ∀ kk H2 G2, d = .bl kk → Sub G G2 → Keep a0 c0 H H2 → RE a0 c0 F G2 ρ σ H2 t' → Q (.bl kk) H2) : tChain (rCmp X.K o) (rCmp X.K o') (tE call true a) (tE call true b) (tE call true c) σ H Q := by
  simp only [evE] at ev
  split at ev
  · rename_i e1
    split at ev
    · rename_i y1 t2 e2
      split at ev
      · rename_i e3
        split at ev
        · rename_i e4
          split at ev
          · rename_i e5
            cases ev
            exact op2 R e1 e2 fun u v H2 G2 s k R2 r1 r2 => cmp_ok R2 e3 r1 r2 ⟨true, rfl, iteT (op1 R2 e4 fun w H3 G3 s3 k3 R3 r3 => cmp_ok R3 e5 (r2.mono s3 k3) r3 (q _ H3 G3 rfl (s.trans s3) (k.trans k3) R3))⟩
          · cases ev
        · cases ev
      · rename_i e3
        cases ev
        exact op2 R e1 e2 fun u v H2 G2 s k R2 r1 r2 => cmp_ok R2 e3 r1 r2 ⟨false, rfl, iteF (q _ H2 G2 rfl s k R2)⟩
      · cases ev
    · cases ev
  · cases ev
theorem e_chn {o o' : CmpOp} {a b c : E} {x y z : Expr} {p : Pos} (hu : X.A.units + 65 < cLine) (hp : plainX z = true) (ha : PE X x (tE call true a)) (hb : PE X y (tE call true b)) (hc : PE X z (tE call true c)) (m : Bool) : PE X (.Compare x [o, o'] [y, z] p) (tE call m (.chn o o' a b c)) := by
  refine PE.imp (pe_chain (opCmp hu o) (opCmp hu o') ha hb hc (lastMarks_ok hp)) ?_
  rintro σ H Q ⟨a0, c0, F, G, ρ, t, d, t', R, ev, q⟩
  refine chn_rd R (by rw [← ev]; simp only [evE]) fun kk H2 G2 e s k R2 => ?_
  subst e
  exact q _ H2 G2 s k R2 (Res.of rfl)
theorem t_chn {o o' : CmpOp} {a b c : E} {x y z : Expr} {p : Pos} (hu : X.A.units + 65 < cLine) (hp : plainX z = true) (ha : PE X x (tE call true a)) (hb : PE X y (tE call true b)) (hc : PE X z (tE call true c)) : PT X (.Compare x [o, o'] [y, z] p) (tT call (.chn o o' a b c)) := by
  refine PT.imp (pt_chain (opCmp hu o) (opCmp hu o') ha hb hc (lastMarks_ok hp)) ?_
  rintro σ H Q ⟨a0, c0, F, G, ρ, t, kk, t', R, ev, q⟩
  unfold tst at ev
  split at ev
  · rename_i d t1 e1
    split at ev
    · rename_i e2
      cases ev
      refine chn_rd R e1 fun k2 H2 G2 e s k R2 => ?_
      subst e
      cases e2
      exact ⟨_, rfl, q H2 G2 s k R2⟩
    · cases ev
  · cases ev
theorem e_ite {c a b : E} {z x y : Expr} {p : Pos} {m : Bool} (hc : PT X z (tT call c)) (ha : PE X x (tE call m a)) (hb : PE X y (tE call m b)) : PE X (.IfExp z x y p) (tE call m (.ite c a b)) := by
  refine PE.imp (pe_ifExp hc ha hb) ?_
  rintro σ H Q ⟨a0, c0, F, G, ρ, t, d, t', R, ev, q⟩
  simp only [evE] at ev
  split at ev
  · rename_i x1 t1 e1
    split at ev
    · rename_i e2
      exact ⟨a0, c0, F, G, ρ, t, true, t1, R, by simp only [tst, e1, e2], fun H1 G1 s k R1 => iteT ⟨a0, c0, F, G1, ρ, t1, d, t', R1, ev, fun w H2 G2 s2 k2 R2 r2 => q w H2 G2 (s.trans s2) (k.trans k2) R2 r2⟩⟩
    · rename_i e2
      exact ⟨a0, c0, F, G, ρ, t, false, t1, R, by simp only [tst, e1, e2], fun H1 G1 s k R1 => iteF ⟨a0, c0, F, G1, ρ, t1, d, t', R1, ev, fun w H2 G2 s2 k2 R2 r2 => q w H2 G2 (s.trans s2) (k.trans k2) R2 r2⟩⟩
    · cases ev
  · cases ev
/-! ### tests -/
theorem t_pe {e : E} {pe : Expr} (h : PE X pe (tE call true e)) (hp : ∀ whole, isTrue pe X.env whole = (do let v ← whole; standAt pe.pos; holding [v] (truthy v))) : PT X pe (tT call e) := by
  refine PT.imp (pt_truth h hp) ?_
  rintro σ H Q ⟨a0, c0, F, G, ρ, t, kk, t', R, ev, q⟩
  unfold tst at ev
  split at ev
  · rename_i d t1 e1
    split at ev
    · rename_i e2
      cases ev
      exact op1 R e1 fun u H1 G1 s k R1 r => ⟨_, tru_of R1 e2 r, q H1 G1 s k R1⟩
    · cases ev
  · cases ev
theorem t_not {a : E} {x : Expr} {p : Pos} (h : PT X x (tT call a)) : PT X (.UnaryOp .Not x p) (tT call (.not a)) := by
  refine PT.imp (pt_not h) ?_
  rintro σ H Q ⟨a0, c0, F, G, ρ, t, kk, t', R, ev, q⟩
  unfold tst at ev
  split at ev
  · rename_i d t1 e1
    split at ev
    · rename_i e2
      cases ev
      simp only [evE] at e1
      split at e1
      · rename_i e3
        split at e1
        · rename_i e4
          cases e1
          cases e2
          exact ⟨a0, c0, F, G, ρ, t, _, _, R, by simp only [tst, e3, e4], q⟩
        · cases e1
      · cases e1
    · cases ev
  · cases ev
theorem PW.of {op : BoolOp} {xs : List Expr} {p : Pos} {tt : TT} (h : PT X (.BoolOp op xs p) tt) : PW X (.BoolOp op xs p) tt := ⟨fun whole pins s σ H Q I q => h.run pins s σ H Q I q⟩
theorem t_and {a b : E} {x y : Expr} {r : List Expr} {p : Pos} (ha : PT X x (tT call a)) (hb : PW X (.BoolOp .And (y :: r) p) (tT call b)) : PT X (.BoolOp .And (x :: y :: r) p) (tT call (.and a b)) := by
  refine PT.imp (PW.pt (pw_and ha hb)) ?_
  rintro σ H Q ⟨a0, c0, F, G, ρ, t, kk, t', R, ev, q⟩
  unfold tst at ev
  split at ev
  · rename_i d t1 e1
    split at ev
    · rename_i e2
      cases ev
      simp only [evE] at e1
      split at e1
      · rename_i x1 t2 e3
        split at e1
        · rename_i e4
          exact ⟨a0, c0, F, G, ρ, t, true, t2, R, by simp only [tst, e3, e4], fun H1 G1 s k R1 => iteT ⟨a0, c0, F, G1, ρ, t2, kk, _, R1, by simp only [tst, e1, e2], fun H2 G2 s2 k2 R2 => q H2 G2 (s.trans s2) (k.trans k2) R2⟩⟩
        · rename_i e4
          cases e1
          rw [e4] at e2
          cases e2
          exact ⟨a0, c0, F, G, ρ, t, false, _, R, by simp only [tst, e3, e4], fun H1 G1 s k R1 => iteF (q H1 G1 s k R1)⟩
        · cases e1
      · cases e1
    · cases ev
  · cases ev
theorem t_or {a b : E} {x y : Expr} {r : List Expr} {p : Pos} (ha : PT X x (tT call a)) (hb : PW X (.BoolOp .Or (y :: r) p) (tT call b)) : PT X (.BoolOp .Or (x :: y :: r) p) (tT call (.or a b)) := by
  refine PT.imp (PW.pt (pw_or ha hb)) ?_
  rintro σ H Q ⟨a0, c0, F, G, ρ, t, kk, t', R, ev, q⟩
  unfold tst at ev
  split at ev
  · rename_i d t1 e1
    split at ev
    · rename_i e2
      cases ev
      simp only [evE] at e1
      split at e1
      · rename_i x1 t2 e3
        split at e1
        · rename_i e4
          cases e1
          rw [e4] at e2
          cases e2
          exact ⟨a0, c0, F, G, ρ, t, true, _, R, by simp only [tst, e3, e4], fun H1 G1 s k R1 => iteT (q H1 G1 s k R1)⟩
        · rename_i e4
          exact ⟨a0, c0, F, G, ρ, t, false, t2, R, by simp only [tst, e3, e4], fun H1 G1 s k R1 => iteF ⟨a0, c0, F, G1, ρ, t2, kk, _, R1, by simp only [tst, e1, e2], fun H2 G2 s2 k2 R2 => q H2 G2 (s.trans s2) (k.trans k2) R2⟩⟩
        · cases e1
      · cases e1
    · cases ev
  · cases ev
end
end Ev

/-! Ev6: calls, what is walked, comprehensions; every expression. -/
namespace Ev
open PySem PySem.Spec PyProof.Rows L2
section
variable {call : Nat → List D → DS → R D} {gi : List (Str × Int)} {fns : List Str} {k : Nat} {X : Cx} {a0 c0 : Addr} {F G G' H H' : Hp} {ρ ρ' : EnvD} {σ σ' : L2.St} {t t' : DS}

/-! ### a call -/
/-- what stands and is not shared -/
def frame (a0 c0 : Addr) (G H : Hp) : Hp := fun b => if b = a0 ∨ b = c0 ∨ (G b).isSome = true then none else H b
theorem frame_some {b : Addr} {o : HO} (h : frame a0 c0 G H b = some o) : H b = some o ∧ G b = none ∧ b ≠ a0 ∧ b ≠ c0 := by
  unfold frame at h
  split at h
  · cases h
  · rename_i n
    refine ⟨h, ?_, fun e => n (.inl e), fun e => n (.inr (.inl e))⟩
    cases q : G b with
    | none => rfl
    | some x => exact absurd (.inr (.inr (by rw [q]; rfl))) n
theorem frame_of {b : Addr} {o : HO} (h : H b = some o) (g : G b = none) (n0 : b ≠ a0) (nc : b ≠ c0) : frame a0 c0 G H b = some o := by
  unfold frame
  rw [if_neg]
  · exact h
  · rintro (e | e | e)
    · exact n0 e
    · exact nc e
    · rw [g] at e; cases e
/-- behind a call -/
theorem RE.called (R : RE a0 c0 F G ρ σ H t) (s : Sub G G') (f : Sub (frame a0 c0 G H) H') (g : Sub G' H') (fg : ∀ b o, frame a0 c0 G H b = some o → G' b = none) (st : StOk a0 c0 (frame a0 c0 G H) G' H' t') :
    RE a0 c0 F G' ρ σ H' t' ∧ Keep a0 c0 H H' := by
  have hF : Sub F (frame a0 c0 G H) := fun b o e => frame_of (R.fh b o e) (R.fg b o e) (by rintro rfl; rw [R.st.f0] at e; cases e) (by rintro rfl; rw [R.st.fc] at e; cases e)
  refine ⟨⟨hF.trans f, g, fun b o e => fg b o (hF b o e), ⟨st.h0, st.hc, R.st.f0, R.st.fc, st.g0, st.gc⟩, fun i d e => ?_, fun i ds e => ?_, R.inj, R.len⟩, fun b o e n0 nc => ?_⟩
  · obtain ⟨v, h1, h2⟩ := R.sh i d e
    exact ⟨v, h1, Rep.mono s d v h2⟩
  · obtain ⟨a, vs, h1, h2, h3, h4, h5, h6, h7⟩ := R.ow i ds e
    have q := frame_of h2 h4 h5 h6
    exact ⟨a, vs, h1, f _ _ q, h3, fg _ _ q, h5, h6, Reps.mono s ds vs h7⟩
  · cases q : G b with
    | none => exact f _ _ (frame_of e q n0 nc)
    | some o' =>
      have := R.gh b o' q
      rw [e] at this; cases this
      exact g _ _ (s _ _ q)
theorem e_call (O : Ok call gi fns k X) {f : Nat} {x : Str} {p q : Pos} {xs : List Expr} {es : E} (hf : fns[f]? = some x) (hx : gloB X.env.scope x = true) (hn : ChkEs gi fns X.N X.env.scope xs es) (ha : PA X xs (tEs call false es)) (b : Bool) :
    PE X (.Call (.Name x p) xs [] q) (tE call b (.call f es)) := by
  obtain ⟨a, fd, ps, hm, hk, hb, hF⟩ := O.fn f x hf
  obtain ⟨h1, h2⟩ := glo_ok hx
  have key : ∀ σ H Q, tE call b (.call f es) σ H Q → tCall (spF call f) [] E0 (tEs call false es) σ H Q := by
    rintro σ H Q ⟨a0, c0, F, G, ρ, t, d, t', R, ev, q⟩
    simp only [evE] at ev
    split at ev
    · rename_i ds t1 e1
      refine ⟨a0, c0, F, G, ρ, t, ds, t1, R, e1, fun vs H1 G1 s1 k1 R1 r1 => ?_⟩
      show spF call f (vs ++ []) H1 Q E0
      rw [List.append_nil]
      refine ⟨a0, c0, frame a0 c0 G1 H1, G1, ds, t1, d, t', fun b o e => (frame_some e).1, R1.gh, fun b o e => (frame_some e).2.1, ⟨R1.st.h0, R1.st.hc, ?_, ?_, R1.st.g0, R1.st.gc⟩, r1.reps, ev, fun v H2 G2 s2 f2 g2 fg2 st2 r2 => ?_⟩
      · unfold frame; rw [if_pos (.inl rfl)]
      · unfold frame; rw [if_pos (.inr (.inl rfl))]
      · obtain ⟨R2, k2⟩ := R1.called s2 f2 g2 fg2 st2
        exact q v H2 G2 (s1.trans s2) (k1.trans k2) R2 (Res.of r2)
    · cases ev
  cases hn with
  | nil =>
    refine PE.imp (pe_call0 (dvs := []) (E := E0) hF O.hr h1 hm hk hb .nil pass0 h2) fun σ H Q z => ?_
    obtain ⟨a0, c0, F, G, ρ, t, ds, t', R, ev, q⟩ := key σ H Q z
    simp only [evEs] at ev
    cases ev
    exact q [] H G Sub.refl Keep.refl R rfl
  | cons c1 c2 c3 =>
    exact PE.imp (pe_call (dvs := []) (E := E0) hF O.hr h1 hm hk hb .nil pass0 ha h2 (star_ok c1) (back_ok _ (any_ok c3))) key
theorem g_blt (O : Ok call gi fns k X) {f : B} {p q : Pos} {y : Expr} {ys : List Expr} {es : E} (hx : isK X.env.scope f.nm .globalImplicit = true) (hn : ChkEs gi fns X.N X.env.scope (y :: ys) es) (ha : PA X (y :: ys) (tEs call true es)) :
    PE X (.Call (.Name f.nm p) (y :: ys) [] q) (tG call (.blt f es)) := by
  cases hn with
  | cons c1 c2 c3 =>
    refine PE.imp (pe_blt (bltR O.calm f) (isK_ok hx) (O.bn f) ha (star_ok c1) (back_ok _ (any_ok c3))) ?_
    rintro σ H Q ⟨a0, c0, F, G, ρ, t, d, t', R, ev, q⟩
    simp only [evE] at ev
    split at ev
    · rename_i ds t1 e1
      split at ev
      · rename_i e2
        cases ev
        exact ⟨a0, c0, F, G, ρ, t, ds, _, R, e1, fun vs H1 G1 s1 k1 R1 r1 => blt_ok R1 e2 r1 fun w H' G' s' k' R' z => q w H' G' (s1.trans s') (k1.trans k') R' z⟩
      · cases ev
    · cases ev
/-! ### items, slices -/
theorem e_ix {a i : E} {x y : Expr} {p : Pos} (hp : plainX y = true) (ha : PE X x (tE call true a)) (hb : PE X y (tE call true i)) (b : Bool) : PE X (.Subscript x y p) (tE call b (.ix a i)) := by
  refine PE.imp (pe_ix ixS2 ha hb (ixp_ok hp)) ?_
  rintro σ H Q ⟨a0, c0, F, G, ρ, t, d, t', R, ev, q⟩
  simp only [evE] at ev
  split at ev
  · rename_i e1
    split at ev
    · rename_i e2
      split at ev
      · rename_i e3
        cases ev
        exact op2 R e1 e2 fun u v H2 G2 s k R2 r1 r2 => ix_ok R2 e3 r1 r2 fun w z => q w H2 G2 s k R2 (Res.of z)
      · cases ev
    · cases ev
  · cases ev
def tO (call : Nat → List D → DS → R D) (e : E) : TO := fun σ H Q => ∃ a0 c0 F G ρ t o t', RE a0 c0 F G ρ σ H t ∧ optP e (evE call e true ρ t) t = some (o, t') ∧
  ∀ H' G', Sub G G' → Keep a0 c0 H H' → RE a0 c0 F G' ρ σ H' t' → Q o H'
theorem PO.imp {e : Option Expr} {te te' : TO} (h : PO X e te) (hi : ∀ σ H Q, te' σ H Q → te σ H Q) : PO X e te' := ⟨fun pins s σ H Q I q => h.run pins s σ H Q I (hi σ H Q q)⟩
theorem o_nil {e : E} (h : e.isNil = true) : PO X none (tO call e) := by
  refine PO.imp po_none ?_
  rintro σ H Q ⟨a0, c0, F, G, ρ, t, o, t', R, ev, q⟩
  unfold optP at ev
  rw [h] at ev
  cases ev
  exact q H G Sub.refl Keep.refl R
theorem o_some {e : E} {x : Expr} (h : e.isNil = false) (hx : PE X x (tE call true e)) : PO X (some x) (tO call e) := by
  refine PO.imp (po_some hx) ?_
  rintro σ H Q ⟨a0, c0, F, G, ρ, t, o, t', R, ev, q⟩
  unfold optP at ev
  rw [h] at ev
  simp only at ev
  split at ev
  · rename_i e1
    cases ev
    exact op1 R e1 fun u H1 G1 s k R1 r => ⟨_, r.int, q H1 G1 s k R1⟩
  · cases ev
theorem g_sl {a lo hi : E} {x : Expr} {l h : Option Expr} {p p2 : Pos} (ha : PE X x (tE call true a)) (hl : PO X l (tO call lo)) (hh : PO X h (tO call hi)) : PE X (.Subscript x (.Slice l h none p2) p) (tG call (.sl a lo hi)) := by
  refine PE.imp (pe_slice slR ha hl hh) ?_
  rintro σ H Q ⟨a0, c0, F, G, ρ, t, d, t', R, ev, q⟩
  simp only [evE] at ev
  split at ev
  · rename_i x1 t1 e1
    split at ev
    · rename_i l1 t2 e2
      split at ev
      · rename_i h1 t3 e3
        split at ev
        · rename_i e4
          cases ev
          exact op1 R e1 fun u H1 G1 s1 k1 R1 r1 => ⟨a0, c0, F, G1, ρ, t1, l1, t2, R1, e2, fun H2 G2 s2 k2 R2 => ⟨a0, c0, F, G2, ρ, t2, h1, _, R2, e3, fun H3 G3 s3 k3 R3 =>
            sl_ok R3 e4 (r1.mono (s2.trans s3) (k2.trans k3)) fun w H' G' s' k' R' z => q w H' G' (s1.trans (s2.trans (s3.trans s'))) (k1.trans (k2.trans (k3.trans k'))) R' z⟩⟩
        · cases ev
      · cases ev
    · cases ev
  · cases ev
theorem g_rev {a : E} {x : Expr} {n : Nat} {p1 p2 p3 p : Pos} (ha : PE X x (tE call true a)) : PE X (.Subscript x (.Slice none none (some (.UnaryOp .USub (.Constant (.int 1) n p1) p2)) p3) p) (tG call (.rev a)) := by
  refine PE.imp (pe_revA ha) ?_
  rintro σ H Q ⟨a0, c0, F, G, ρ, t, d, t', R, ev, q⟩
  simp only [evE] at ev
  split at ev
  · rename_i x1 t1 e1
    split at ev
    · rename_i e2
      cases ev
      refine op1 R e1 fun u H1 G1 s1 k1 R1 r1 => ?_
      cases x1 with
      | lst ds =>
        cases e2
        obtain ⟨a, vs, rfl, ga, ra⟩ := r1.lst R1.gh
        exact ⟨a, vs, rfl, .inl ⟨SqL.of ga, fun p n => q _ _ _ s1 (k1.trans (Keep.new n)) (R1.newP n) (Fr.mk' R1 n ra.rev)⟩⟩
      | tup ds =>
        cases e2
        obtain ⟨a, vs, rfl, ga, ra⟩ := r1.tup.tupV
        exact ⟨a, vs, rfl, .inr ⟨SqT.of (R1.gh _ _ ga), fun p n => q _ _ _ (s1.trans (Sub.upd (R1.gnone n))) (k1.trans (Keep.new n)) (R1.newS n) (Rep.tupI upd_same (Reps.mono (Sub.upd (R1.gnone n)) _ _ ra.rev))⟩⟩
      | _ => cases e2
    · cases ev
  · cases ev
/-! ### what is walked -/
def StP (a0 c0 : Addr) (b : Bool) (G : Hp) : Option (Addr × HO) → Prop
  | none => True
  | some (a, o) => a ≠ a0 ∧ a ≠ c0 ∧ (b = false → G a = some o)
def tI (call : Nat → List D → DS → R D) (b : Bool) (it : E) : TI := fun σ H Q => ∃ a0 c0 F G ρ t x ds t', RE a0 c0 F G ρ σ H t ∧ evE call it b ρ t = some (x, t') ∧ seqOf x = some ds ∧
  ∀ J st vs H' G', Sub G G' → Keep a0 c0 H H' → RE a0 c0 F G' ρ σ H' t' → Walks J st vs → Stand st H' → StP a0 c0 b G' st → Reps a0 G' ds vs → Q J H'
theorem i_e {i tg : Expr} {it : E} {b : Bool} (h : PE X i (tE call b it)) : PI X tg i (tI call b it) := by
  refine ⟨fun pins s σ H Q I hq => ?_⟩
  obtain ⟨a0, c0, F, G, ρ, t, x, ds, t', R, ev, es, q⟩ := hq
  cases x with
  | tup ds =>
    cases es
    refine (pi_tup (tg := tg) h).run pins s σ H Q I ⟨a0, c0, F, G, ρ, t, _, t', R, ev, fun v H1 G1 s1 k1 R1 r1 => ?_⟩
    obtain ⟨a, vs, rfl, ga, ra⟩ := r1.tup.tupV
    have n0 : a ≠ a0 := by rintro rfl; rw [R1.st.g0] at ga; cases ga
    have nc : a ≠ c0 := by rintro rfl; rw [R1.st.gc] at ga; cases ga
    exact ⟨a, rfl, ⟨vs, SqT.of (R1.gh _ _ ga)⟩, q _ (some (a, .tup vs)) vs H1 G1 s1 k1 R1 walks_tup (R1.gh _ _ ga) ⟨n0, nc, fun _ => ga⟩ ra⟩
  | lst ds =>
    cases es
    refine (pi_list (tg := tg) h).run pins s σ H Q I ⟨a0, c0, F, G, ρ, t, _, t', R, ev, fun v H1 G1 s1 k1 R1 r1 => ?_⟩
    have pubc : Rep a0 G1 (.lst ds) v → ∃ a, v = .ref a ∧ (∃ xs, SqL X.K H1 a xs) ∧ Q (Itl X.K a) H1 := fun r => by
      unfold Rep at r
      obtain ⟨a, vs, rfl, ga, ra⟩ := r
      have n0 : a ≠ a0 := by rintro rfl; rw [R1.st.g0] at ga; cases ga
      have nc : a ≠ c0 := by rintro rfl; rw [R1.st.gc] at ga; cases ga
      exact ⟨a, rfl, ⟨vs, SqL.of (R1.gh _ _ ga)⟩, q _ (some (a, .lst vs)) vs H1 G1 s1 k1 R1 walks_list (R1.gh _ _ ga) ⟨n0, nc, fun _ => ga⟩ ra⟩
    cases b with
    | false => exact pubc r1
    | true =>
      rcases r1 with r1 | ⟨a, vs, es, rfl, e, ha, n0, nc, ra⟩
      · exact pubc r1
      · cases e
        exact ⟨a, rfl, ⟨vs, SqL.of ha⟩, q _ (some (a, .lst vs)) vs H1 G1 s1 k1 R1 walks_list ha ⟨n0, nc, fun z => nomatch z⟩ ra⟩
  | _ => cases es
theorem in62_ok {i : Int} (h : in62 i = true) : -(2 ^ 62) ≤ i ∧ i < 2 ^ 62 := by
  unfold in62 at h
  simp only [Bool.and_eq_true, decide_eq_true_eq] at h
  exact h
theorem Ress.ints1 {b : Bool} {i : Int} {us : List V} (h : Ress a0 c0 G H b [.int i] us) : us = [.int i] := by
  obtain ⟨v, r, rfl, h1, h2⟩ := h
  obtain rfl : r = [] := h2
  rw [h1.int]
theorem Ress.ints2 {b : Bool} {i j : Int} {us : List V} (h : Ress a0 c0 G H b [.int i, .int j] us) : us = [.int i, .int j] := by
  obtain ⟨v, r, rfl, h1, w, r2, rfl, h2, h3⟩ := h
  obtain rfl : r2 = [] := h3
  rw [h1.int, h2.int]
theorem Ress.ints3 {b : Bool} {i j l : Int} {us : List V} (h : Ress a0 c0 G H b [.int i, .int j, .int l] us) : us = [.int i, .int j, .int l] := by
  obtain ⟨v, r, rfl, h1, w, r2, rfl, h2, z, r3, rfl, h3, h4⟩ := h
  obtain rfl : r3 = [] := h4
  rw [h1.int, h2.int, h3.int]
theorem star_nil {env : Env} : starEach [] env = [] := by simp only [starEach]
theorem star1 {y : Expr} {env : Env} (h : plainX y = true) : starEach [y] env = [(false, eval y env)] := by rw [star_ok h, star_nil]
theorem star2 {y z : Expr} {env : Env} (h : plainX y = true) (h2 : plainX z = true) : starEach [y, z] env = [(false, eval y env), (false, eval z env)] := by rw [star_ok h, star1 h2]
theorem rng1_imp {es : E} {j : Int} {t1 : DS} {Q : It → Hp → Prop} (R : RE a0 c0 F G ρ σ H t) (e1 : evEs call es true ρ t = some ([.int j], t1)) (hj : in62 j = true)
    (q : ∀ H1 G1, Sub G G1 → Keep a0 c0 H H1 → RE a0 c0 F G1 ρ σ H1 t1 → Q (Itr 0 j.toNat) H1) : iRng1 (tEs call true es) σ H Q := by
  obtain ⟨j1, j2⟩ := in62_ok hj
  exact ⟨a0, c0, F, G, ρ, t, _, _, R, e1, fun vs H1 G1 s1 k1 R1 r1 => ⟨j, r1.ints1, j1, j2, q H1 G1 s1 k1 R1⟩⟩
theorem rng2_imp {es : E} {i j : Int} {t1 : DS} {Q : It → Hp → Prop} (R : RE a0 c0 F G ρ σ H t) (e1 : evEs call es true ρ t = some ([.int i, .int j], t1)) (hi : in62 i = true) (hj : in62 j = true)
    (q : ∀ H1 G1, Sub G G1 → Keep a0 c0 H H1 → RE a0 c0 F G1 ρ σ H1 t1 → Q (Itr i (j - i).toNat) H1) : iRng2 (tEs call true es) σ H Q := by
  obtain ⟨i1, i2⟩ := in62_ok hi
  obtain ⟨j1, j2⟩ := in62_ok hj
  exact ⟨a0, c0, F, G, ρ, t, _, _, R, e1, fun vs H1 G1 s1 k1 R1 r1 => ⟨i, j, r1.ints2, ⟨i1, i2, j1, j2⟩, q H1 G1 s1 k1 R1⟩⟩
theorem rng3_imp {es : E} {i j : Int} {t1 : DS} {Q : It → Hp → Prop} (R : RE a0 c0 F G ρ σ H t) (e1 : evEs call es true ρ t = some ([.int i, .int j, .int (-1)], t1)) (hi : in62 i = true) (hj : in62 j = true)
    (q : ∀ H1 G1, Sub G G1 → Keep a0 c0 H H1 → RE a0 c0 F G1 ρ σ H1 t1 → Q (Itc i (-1) (i - j).toNat) H1) : iRng3 (tEs call true es) σ H Q := by
  obtain ⟨i1, i2⟩ := in62_ok hi
  obtain ⟨j1, j2⟩ := in62_ok hj
  exact ⟨a0, c0, F, G, ρ, t, _, _, R, e1, fun vs H1 G1 s1 k1 R1 r1 => ⟨i, j, -1, (i - j).toNat, r1.ints3, RgC.neg i1 i2 j1 j2, q H1 G1 s1 k1 R1⟩⟩
theorem x3 {tg y z u : Expr} {p q : Pos} {es : E} (hg : Gl X "range") (hr : X.mg "range" = none) (c1 : plainX y = true) (ha : PA X [y, z, u] (tEs call true es))
    (h2 : (backTo q (starEach [z, u] X.env)).any (·.1) = false) : PI X tg (.Call (.Name "range" p) [y, z, u] [] q) (iRng3 (tEs call true es)) :=
  pi_range3 (tg := tg) (p := p) (pos := q) hg hr ha (star_ok c1) h2
theorem i_rng (O : Ok call gi fns k X) {tg : Expr} {p q : Pos} {xs : List Expr} {es : E} {b : Bool} (hx : isK X.env.scope "range" .globalImplicit = true) (hn : ChkEs gi fns X.N X.env.scope xs es) (ha : PA X xs (tEs call true es)) :
    PI X tg (.Call (.Name "range" p) xs [] q) (tI call b (.rng es)) := by
  have hg : Gl X "range" := isK_ok hx
  cases hn with
  | nil =>
    refine ⟨fun pins s σ H Q I hq => ?_⟩
    obtain ⟨a0, c0, F, G, ρ, t, x, ds, t', R, ev, es', q'⟩ := hq
    simp only [evE, evEs, rngF] at ev
    cases ev
  | @cons _ y xs _ _ c1 c2 hn2 =>
    cases hn2 with
    | nil =>
      have P := pi_range1 (tg := tg) (p := p) (pos := q) hg O.rg ha (star1 c1)
      refine ⟨fun pins s σ H Q I hq => P.run pins s σ H Q I ?_⟩
      obtain ⟨a0, c0, F, G, ρ, t, x, ds, t', R, ev, es', q'⟩ := hq
      simp only [evE] at ev
      split at ev
      · rename_i ds1 t1 e1
        have hlen := es_len (.cons c1 c2 .nil) e1
        split at ev
        · rename_i l e2
          cases ev
          cases es'
          unfold rngF at e2
          split at e2
          · split at e2
            · cases e2
              rename_i j hj
              refine rng1_imp R e1 hj fun H1 G1 s1 k1 R1 => q' _ none _ H1 G1 s1 k1 R1 walks_rng trivial trivial ?_
              have e : (j - 0).toNat = j.toNat := by rw [Int.sub_zero]
              unfold rngL
              rw [e]
              exact Reps.ints _
            · cases e2
          · simp at hlen
          · simp at hlen
          · cases e2
        · cases ev
      · cases ev
    | @cons _ z xs _ _ c3 c4 hn3 =>
      cases hn3 with
      | nil =>
        have P := pi_range2 (tg := tg) (p := p) (pos := q) hg O.rg ha (star2 c1 c3) (star1 c3)
        refine ⟨fun pins s σ H Q I hq => P.run pins s σ H Q I ?_⟩
        obtain ⟨a0, c0, F, G, ρ, t, x, ds, t', R, ev, es', q'⟩ := hq
        simp only [evE] at ev
        split at ev
        · rename_i ds1 t1 e1
          have hlen := es_len (.cons c1 c2 (.cons c3 c4 .nil)) e1
          split at ev
          · rename_i l e2
            cases ev
            cases es'
            unfold rngF at e2
            split at e2
            · simp at hlen
            · split at e2
              · cases e2
                rename_i i j hj
                rw [Bool.and_eq_true] at hj
                exact rng2_imp R e1 hj.1 hj.2 fun H1 G1 s1 k1 R1 => q' _ none _ H1 G1 s1 k1 R1 walks_rng trivial trivial (Reps.ints _)
              · cases e2
            · simp at hlen
            · cases e2
          · cases ev
        · cases ev
      | @cons _ u xs _ _ c5 c6 hn4 =>
        cases hn4 with
        | nil =>
          have h2 : (starEach [z, u] X.env).any (·.1) = false := by rw [star2 c3 c5]; rfl
          have P := x3 (tg := tg) (p := p) (q := q) hg O.rg c1 ha (back_ok (pos := q) _ h2)
          refine ⟨fun pins s σ H Q I hq => P.run pins s σ H Q I ?_⟩
          obtain ⟨a0, c0, F, G, ρ, t, x, ds, t', R, ev, es', q'⟩ := hq
          simp only [evE] at ev
          split at ev
          · rename_i ds1 t1 e1
            have hlen := es_len (.cons c1 c2 (.cons c3 c4 (.cons c5 c6 .nil))) e1
            split at ev
            · rename_i l e2
              cases ev
              cases es'
              unfold rngF at e2
              split at e2
              · simp at hlen
              · simp at hlen
              · split at e2
                · cases e2
                  rename_i i j l hj
                  simp only [Bool.and_eq_true, beq_iff_eq] at hj
                  obtain ⟨⟨hi, hj⟩, rfl⟩ := hj
                  exact rng3_imp R e1 hi hj fun H1 G1 s1 k1 R1 => q' _ none _ H1 G1 s1 k1 R1 walks_rngC trivial trivial (Reps.ints _)
                · cases e2
              · cases e2
            · cases ev
          · cases ev
        | cons c7 c8 hn5 =>
          refine ⟨fun pins s σ H Q I hq => ?_⟩
          obtain ⟨a0, c0, F, G, ρ, t, x, ds, t', R, ev, es', q'⟩ := hq
          simp only [evE] at ev
          split at ev
          · rename_i ds1 t1 e1
            have hlen := es_len (.cons c1 c2 (.cons c3 c4 (.cons c5 c6 (.cons c7 c8 hn5)))) e1
            split at ev
            · rename_i l e2
              unfold rngF at e2
              split at e2
              · simp at hlen
              · simp at hlen
              · simp at hlen
              · cases e2
            · cases ev
          · cases ev
/-! ### comprehensions -/
theorem RE.priv {p : Addr} {o : HO} (R : RE a0 c0 F G ρ σ H t) (n : H p = none) : RE a0 c0 (upd F p o) G ρ σ (upd H p o) t := by
  have k := Sub.upd (o := o) n
  obtain ⟨n0, nc⟩ := R.st.ne n
  refine ⟨fun b u e => ?_, R.gh.trans k, fun b u e => ?_, ⟨k _ _ R.st.h0, k _ _ R.st.hc, ?_, ?_, R.st.g0, R.st.gc⟩, R.sh, fun i ds e => ?_, R.inj, R.len⟩
  · by_cases hb : b = p
    · subst hb; rw [upd_same] at e ⊢; exact e
    · rw [upd_ne hb] at e ⊢; exact R.fh b u e
  · by_cases hb : b = p
    · subst hb; exact R.gnone n
    · rw [upd_ne hb] at e; exact R.fg b u e
  · rw [upd_ne (Ne.symm n0)]; exact R.st.f0
  · rw [upd_ne (Ne.symm nc)]; exact R.st.fc
  · obtain ⟨a, vs, h1, h2, h3, h⟩ := R.ow i ds e
    have hne : a ≠ p := by rintro rfl; rw [h2] at n; cases n
    exact ⟨a, vs, h1, k _ _ h2, by rw [upd_ne hne]; exact h3, h⟩
theorem RE.privSet {p : Addr} {o o' : HO} (R : RE a0 c0 (upd F p o) G ρ σ H t) : RE a0 c0 (upd F p o') G ρ σ (upd H p o') t := by
  have gp : G p = none := R.fg p o upd_same
  have ne : ∀ {b : Addr}, upd F p o b = none → b ≠ p := fun {b} h z => by subst z; rw [upd_same] at h; cases h
  have n0 := ne R.st.f0
  have nc := ne R.st.fc
  refine ⟨fun b u e => ?_, fun b u e => ?_, fun b u e => ?_, ⟨?_, ?_, ?_, ?_, R.st.g0, R.st.gc⟩, R.sh, fun i ds e => ?_, R.inj, R.len⟩
  · by_cases hb : b = p
    · subst hb; rw [upd_same] at e ⊢; exact e
    · rw [upd_ne hb] at e ⊢; exact R.fh b u (by rw [upd_ne hb]; exact e)
  · rw [upd_ne (by rintro rfl; rw [gp] at e; cases e)]; exact R.gh b u e
  · by_cases hb : b = p
    · subst hb; exact gp
    · rw [upd_ne hb] at e; exact R.fg b u (by rw [upd_ne hb]; exact e)
  · rw [upd_ne n0]; exact R.st.h0
  · rw [upd_ne nc]; exact R.st.hc
  · rw [upd_ne n0]; have := R.st.f0; rwa [upd_ne n0] at this
  · rw [upd_ne nc]; have := R.st.fc; rwa [upd_ne nc] at this
  · obtain ⟨a, vs, h1, h2, h3, h⟩ := R.ow i ds e
    have hne := ne h3
    exact ⟨a, vs, h1, by rw [upd_ne hne]; exact h2, by rw [upd_ne hne] at h3 ⊢; exact h3, h⟩
theorem wipeE_out {ρ : EnvD} {i : Nat} : ∀ {vs : List Nat}, i ∉ vs → (wipeE ρ vs)[i]? = ρ[i]?
  | [], _ => rfl
  | v :: vs, h => by
    simp only [List.mem_cons, not_or] at h
    show ((wipeE ρ vs).set v none)[i]? = _
    rw [List.getElem?_set_ne (Ne.symm h.1)]
    exact wipeE_out h.2
theorem wipeE_length (ρ : EnvD) : ∀ vs : List Nat, (wipeE ρ vs).length = ρ.length
  | [] => rfl
  | v :: vs => by show ((wipeE ρ vs).set v none).length = _; rw [List.length_set, wipeE_length ρ vs]
theorem wipeE_in {ρ : EnvD} {i : Nat} : ∀ {vs : List Nat}, i ∈ vs → (wipeE ρ vs)[i]? = if i < ρ.length then some none else none
  | [], h => nomatch h
  | v :: vs, h => by
    show ((wipeE ρ vs).set v none)[i]? = _
    by_cases e : v = i
    · subst e
      by_cases hl : v < ρ.length
      · rw [List.getElem?_set_self (by rw [wipeE_length]; exact hl), if_pos hl]
      · rw [List.getElem?_eq_none (by rw [List.length_set, wipeE_length]; omega), if_neg hl]
    · rw [List.getElem?_set_ne e]
      exact wipeE_in (by simpa [Ne.symm e] using h)
/-- the environments differ at these slots alone -/
def OnlyE (is : List Nat) (ρ ρ' : EnvD) : Prop := ρ'.length = ρ.length ∧ ∀ j, j ∉ is → ρ'[j]? = ρ[j]?
theorem OnlyE.wipe {is own : List Nat} (h : OnlyE is ρ ρ') (hs : ∀ i ∈ is, i ∈ own) : wipeE ρ' own = wipeE ρ own := by
  refine List.ext_getElem? fun j => ?_
  by_cases hj : j ∈ own
  · rw [wipeE_in hj, wipeE_in hj, h.1]
  · rw [wipeE_out hj, wipeE_out hj]
    exact h.2 j fun z => hj (hs j z)
theorem setAll_only : ∀ {is : List Nat} {ds : List D} {ρ ρ' : EnvD}, setAll is ds ρ = some ρ' → OnlyE is ρ ρ'
  | [], [], _, _, e => by cases e; exact ⟨rfl, fun _ _ => rfl⟩
  | [], _ :: _, _, _, e => by cases e
  | _ :: _, [], _, _, e => by cases e
  | i :: is, d :: ds, ρ, ρ', e => by
    obtain ⟨h1, h2⟩ := setAll_only (is := is) (ds := ds) (show setAll is ds (ρ.set i (some (.val d))) = some ρ' from e)
    refine ⟨by rw [h1, List.length_set], fun j hj => ?_⟩
    simp only [List.mem_cons, not_or] at hj
    rw [h2 j hj.2, List.getElem?_set_ne (Ne.symm hj.1)]
theorem asgT_only {tg : T} {d : D} (e : asgT tg d ρ = some ρ') : OnlyE tg.sl ρ ρ' := by
  cases tg with
  | nm i => cases e; exact ⟨by simp, fun j hj => List.getElem?_set_ne (by simpa [T.sl] using Ne.symm (by simpa [T.sl] using hj))⟩
  | tp is =>
    cases d with
    | tup ds => exact setAll_only e
    | _ => cases e
theorem wipe_idem {σ : L2.St} (own : List Nat) : wipe (wipe σ own) own = wipe σ own := by
  have : OnlyS own σ (wipe σ own) := ⟨wipe_length _ _, fun j hj => wipe_out hj⟩
  exact this.wipe fun _ h => h
theorem wipeE_idem {ρ : EnvD} (own : List Nat) : wipeE (wipeE ρ own) own = wipeE ρ own := by
  have : OnlyE own ρ (wipeE ρ own) := ⟨wipeE_length _ _, fun j hj => wipeE_out hj⟩
  exact this.wipe fun _ h => h
theorem noOwn_ok {vs : List Nat} (h : noOwn ρ vs = true) {i : Nat} (hi : i ∈ vs) (ds : List D) : ρ[i]? ≠ some (some (Sl.own ds)) := fun e => by
  have := List.all_eq_true.mp h i hi
  rw [e] at this
  cases this
/-- behind a comprehension -/
theorem RE.unwipe {t1 : DS} {own : List Nat} {p : Addr} {o : HO} {H1 G1 : Hp} (R1 : RE a0 c0 F G1 ρ σ H1 t1) (R2 : RE a0 c0 (upd F p o) G' (wipeE ρ own) (L2.wipe σ own) H' t') (fp : F p = none) (s : Sub G1 G') (no : noOwn ρ own = true) :
    RE a0 c0 F G' ρ σ H' t' := by
  have hf : Sub F (upd F p o) := Sub.upd fp
  have nw : ∀ {i : Nat} {ds : List D}, ρ[i]? = some (some (Sl.own ds)) → i ∉ own := fun {i ds} e z => noOwn_ok no z ds e
  refine ⟨hf.trans R2.fh, R2.gh, fun b u e => R2.fg b u (hf b u e), ⟨R2.st.h0, R2.st.hc, R1.st.f0, R1.st.fc, R2.st.g0, R2.st.gc⟩, fun i d e => ?_, fun i ds e => ?_, R1.inj, R1.len⟩
  · obtain ⟨v, h1, h2⟩ := R1.sh i d e
    exact ⟨v, h1, Rep.mono s d v h2⟩
  · have hn := nw e
    obtain ⟨a, vs, h1, h2, h3, h4, h⟩ := R2.ow i ds (by rw [wipeE_out hn]; exact e)
    rw [wipe_out hn] at h1
    have hne : a ≠ p := by rintro rfl; rw [upd_same] at h3; cases h3
    exact ⟨a, vs, h1, h2, by rw [upd_ne hne] at h3; exact h3, h4, h⟩
def tC (call : Nat → List D → DS → R D) (c : E) : TT := fun σ H Q => ∃ a0 c0 F G ρ t kk t', RE a0 c0 F G ρ σ H t ∧ optC c (evE call c true ρ t) t = some (kk, t') ∧
  ∀ H' G', Sub G G' → Keep a0 c0 H H' → RE a0 c0 F G' ρ σ H' t' → Q kk H'
theorem PTs.imp {e : List Expr} {te te' : TT} (h : PTs X e te) (hi : ∀ σ H Q, te' σ H Q → te σ H Q) : PTs X e te' := ⟨fun pins s σ H Q I q => h.run pins s σ H Q I (hi σ H Q q)⟩
theorem c_nil {c : E} (h : c.isNil = true) : PTs X [] (tC call c) := by
  refine PTs.imp pts_nil ?_
  rintro σ H Q ⟨a0, c0, F, G, ρ, t, o, t', R, ev, q⟩
  unfold optC at ev
  rw [h] at ev
  cases ev
  exact q H G Sub.refl Keep.refl R
theorem c_one {c : E} {z : Expr} (h : c.isNil = false) (hz : PT X z (tT call c)) : PTs X [z] (tC call c) := by
  refine PTs.imp (pts_one hz) ?_
  rintro σ H Q ⟨a0, c0, F, G, ρ, t, o, t', R, ev, q⟩
  unfold optC at ev
  rw [h] at ev
  exact ⟨a0, c0, F, G, ρ, t, o, t', R, ev, q⟩
/-- a turn of a comprehension -/
def cF (call : Nat → List D → DS → R D) (own : List Nat) (tg : T) (c e : E) (ρ : EnvD) (d : D) (t : DS) : R (Option D) := match asgT tg d (wipeE ρ own) with
  | some ρ' => match optC c (evE call c true ρ' t) t with
    | some (true, t) => match evE call e false ρ' t with
      | some (y, t) => some (some y, t)
      | none => none
    | some (false, t) => some (none, t)
    | none => none
  | none => none
theorem g_comp_imp {own : List (Str × Nat)} {tg : T} {it c e : E} (hsub : ∀ i ∈ tg.sl, i ∈ own.map (·.2)) : ∀ σ H Q, tG call (.comp own tg it c e) σ H Q → tLc (tI call true it) (gT tg) (tC call c) (tE call false e) (own.map (·.2)) σ H Q := by
  rintro σ H Q ⟨a0, c0, F, G, ρ, t, d, t', R, ev, q⟩
  simp only [evE] at ev
  split at ev
  · rename_i x t1 e1
    split at ev
    · cases ev
    · rename_i ds e2
      split at ev
      · rename_i no
        split at ev
        · rename_i ys t2 e3
          cases ev
          refine ⟨a0, c0, F, G, ρ, t, x, ds, t1, R, e1, e2, fun J st vs H1 G1 s1 k1 R1 wk std sp rep => fun Dd nD => ?_⟩
          obtain ⟨n0, nc⟩ := R1.st.ne nD
          have stand : ∀ {H : Hp}, Keep a0 c0 H1 H → Stand st H := fun {H} kp => by
            cases st with
            | none => trivial
            | some z => exact kp _ _ std sp.1 sp.2.1
          obtain ⟨f, hf⟩ : ∃ f, f = cF call (own.map (·.2)) tg c e ρ := ⟨_, rfl⟩
          have e3 : compL f ds [] t1 = some (ys, t') := by rw [hf]; exact e3
          refine ⟨fun i m H => m = vs.length - i ∧ i ≤ vs.length ∧ ∃ G2 t3 acc us, Sub G1 G2 ∧ Keep a0 c0 H1 H ∧ RE a0 c0 (upd F Dd (.lst us)) G2 (wipeE ρ (own.map (·.2))) (wipe σ (own.map (·.2))) H t3 ∧ Reps a0 G2 acc.reverse us ∧ compL f (ds.drop i) acc t3 = some (ys, t'),
            ⟨vs.length, by simp, Nat.zero_le _, G1, t1, [], [], Sub.refl, Keep.new nD, (R1.wipe _).priv nD, Reps.nil, by simpa using e3⟩, ?_⟩
          rintro i m H3 ⟨rfl, hi, G2, t3, acc, us, s2, k2, R2, ra, e4⟩
          have hlen : vs.length = ds.length := rep.len
          by_cases hlt : i < vs.length
          · refine .inr ⟨wk.go i H3 hlt (stand k2), fun H' => ∃ G2 t3 acc us, Sub G1 G2 ∧ Keep a0 c0 H1 H' ∧ RE a0 c0 (upd F Dd (.lst us)) G2 (wipeE ρ (own.map (·.2))) (wipe σ (own.map (·.2))) H' t3 ∧ Reps a0 G2 acc.reverse us ∧ compL f (ds.drop (i + 1)) acc t3 = some (ys, t'),
              fun H' h => ⟨vs.length - (i + 1), by omega, rfl, hlt, h⟩, fun y H' hy => ?_⟩
            obtain ⟨rfl, hv⟩ := wk.yld i H3 y H' hlt (stand k2) hy
            have hid : i < ds.length := by omega
            obtain ⟨y', hy', rd⟩ := rep.get (i := i) (d := ds[i]) (by simp [hid])
            rw [hv] at hy'; cases hy'
            rw [List.drop_eq_getElem_cons hid] at e4
            unfold compL at e4
            subst hf
            simp only [cF] at e4
            split at e4
            · rename_i y1 t4 e5
              split at e5
              · rename_i ρ' ea
                split at e5
                · rename_i t5 e6
                  split at e5
                  · rename_i y2 t6 e7
                    cases e5
                    split at e4
                    · rename_i hz
                      refine ⟨a0, c0, _, G2, _, t3, ds[i], ρ', R2, Rep.mono s2 _ _ rd, ea, fun σ2 Rσ on => ⟨(on.wipe hsub).trans (wipe_idem _), a0, c0, _, G2, ρ', t3, true, t5, Rσ, e6, fun H5 G5 s5 k5 R5 => iteT ⟨a0, c0, _, G5, ρ', t5, _, _, R5, e7, fun v H6 G6 s6 k6 R6 r6 => ?_⟩⟩⟩
                      refine ⟨us, R6.fh _ _ upd_same, by rw [ra.len, List.length_reverse, sizeLine_eq]; exact hz, G6, _, _, us ++ [v], s2.trans (s5.trans s6), ?_, ?_, ?_, e4⟩
                      · intro b o hb m0 mc
                        have hne : b ≠ Dd := by rintro rfl; rw [nD] at hb; cases hb
                        rw [upd_ne hne]
                        exact (k2.trans (k5.trans k6)) b o hb m0 mc
                      · have R7 := (R6.wipe (own.map (·.2))).privSet (o' := .lst (us ++ [v]))
                        rw [(asgT_only ea).wipe hsub, wipeE_idem, on.wipe hsub, wipe_idem] at R7
                        exact R7
                      · rw [List.reverse_cons]
                        exact (Reps.mono (s5.trans s6) _ _ ra).append (.cons r6 .nil)
                    · cases e4
                  · cases e5
                · cases e5
                · cases e5
              · cases e5
            · rename_i t4 e5
              split at e5
              · rename_i ρ' ea
                split at e5
                · split at e5
                  · cases e5
                  · cases e5
                · rename_i t5 e6
                  cases e5
                  refine ⟨a0, c0, _, G2, _, t3, ds[i], ρ', R2, Rep.mono s2 _ _ rd, ea, fun σ2 Rσ on => ⟨(on.wipe hsub).trans (wipe_idem _), a0, c0, _, G2, ρ', t3, false, _, Rσ, e6, fun H5 G5 s5 k5 R5 => iteF ?_⟩⟩
                  refine ⟨G5, _, acc, us, s2.trans s5, k2.trans k5, ?_, Reps.mono s5 _ _ ra, e4⟩
                  have R7 := R5.wipe (own.map (·.2))
                  rw [(asgT_only ea).wipe hsub, wipeE_idem, on.wipe hsub, wipe_idem] at R7
                  exact R7
                · cases e5
              · cases e5
            · cases e4
          · have : i = vs.length := by omega
            subst this
            refine .inl ⟨wk.stop H3 (stand k2), ?_⟩
            rw [List.drop_of_length_le (by omega)] at e4
            unfold compL at e4
            cases e4
            have fD := R1.fnone nD
            have R7 := R1.unwipe R2 fD s2 no
            refine q _ H3 G2 (s1.trans s2) (k1.trans k2) R7 ⟨⟨Dd, us, rfl, R2.fh _ _ upd_same, fD, R2.fg _ _ upd_same, n0, nc, fun j es e ej => ?_, ra⟩⟩
            obtain ⟨a, vs', g1, g2, _⟩ := R1.ow j es e
            rw [g1] at ej; cases ej
            rw [nD] at g2; cases g2
        · cases ev
      · cases ev
  · cases ev
end
end Ev

/-! Ev7: every expression that the check passes. -/
namespace Ev
open PySem PySem.Spec PyProof.Rows L2
section
variable {call : Nat → List D → DS → R D} {gi : List (Str × Int)} {fns : List Str} {k : Nat} {X : Cx}
def Out (call : Nat → List D → DS → R D) (X : Cx) (e : E) (pe : Expr) : Bool → Prop
  | false => ∀ b, PE X pe (tE call b e)
  | true => PT X pe (tT call e)
theorem out_pe {e : E} {pe : Expr} (h : ∀ b, PE X pe (tE call b e)) (hp : ∀ whole, isTrue pe X.env whole = (do let v ← whole; standAt pe.pos; holding [v] (truthy v))) : ∀ m, Out call X e pe m
  | false => h
  | true => t_pe (h true) hp
structure All (call : Nat → List D → DS → R D) (gi : List (Str × Int)) (fns : List Str) (X : Cx) (e : E) : Prop where
  ex : ∀ m pe, Chk gi fns X.N X.env.scope m pe e → Out call X e pe m
  es : ∀ xs, ChkEs gi fns X.N X.env.scope xs e → ∀ b, PA X xs (tEs call b e)
  rg : ∀ es xs, e = .rng es → ChkEs gi fns X.N X.env.scope xs es → ∀ b, PA X xs (tEs call b es)
theorem All.pe {e : E} {pe : Expr} (h : All call gi fns X e) (c : Chk gi fns X.N X.env.scope false pe e) (b : Bool) : PE X pe (tE call b e) := h.ex false pe c b
theorem All.pt {e : E} {pe : Expr} (h : All call gi fns X e) (c : Chk gi fns X.N X.env.scope true pe e) : PT X pe (tT call e) := h.ex true pe c
/-- an expression that comes new, by its list's rule -/
theorem out_g {e : E} {pe : Expr} (h : PE X pe (tG call e)) (hb : ∀ b ρ t, evE call e b ρ t = evE call e true ρ t) (hp : ∀ whole, isTrue pe X.env whole = (do let v ← whole; standAt pe.pos; holding [v] (truthy v))) : ∀ m, Out call X e pe m :=
  out_pe (fun b => tE_of_tG h (hb b)) hp
theorem All.list {es : E} {xs : List Expr} (h : All call gi fns X es) (c : ChkEs gi fns X.N X.env.scope xs es) (b : Bool) : PA X xs (tEs call b es) := h.es xs c b
theorem g_opt {e : E} {l : Option Expr} (h : All call gi fns X e) (c : ChkO gi fns X.N X.env.scope l e) : PO X l (tO call e) := by
  cases c with
  | nil hn => exact o_nil hn
  | some hn c => exact o_some hn (h.pe c true)
theorem g_comp (O : Ok call gi fns k X) {own : List (Str × Nat)} {tg : T} {it c e : E} {elt t i : Expr} {ifs : List Expr} {scope : Scope} (h1 : blkC X.N X.env.scope scope own = true) (h2 : chkT X.N scope tg t = true)
    (h3 : ∀ j ∈ tg.sl, j ∈ own.map (·.2)) (hi : ChkI gi fns X.N X.env.scope i it) (hc : ChkC gi fns X.N (relS scope X.env.scope) ifs c) (he : Chk gi fns X.N (relS scope X.env.scope) false elt e)
    (ai : ∀ X, Ok call gi fns k X → All call gi fns X it) (ac : ∀ X, Ok call gi fns k X → All call gi fns X c) (ae : ∀ X, Ok call gi fns k X → All call gi fns X e) :
    BlkOk X.N X.env.scope scope own ∧ PI X t i (tI call true it) ∧ (∀ (s : Shared) (H : Hp) (C : Addr) (cl : List (Str × Addr)) (fp : List Addr), PG (X.blk s H scope (compEnvC scope cl C X.env) fp) t (gT tg)) ∧
      (∀ (s : Shared) (H : Hp) (C : Addr) (cl : List (Str × Addr)) (fp : List Addr), PTs (X.blk s H scope (compEnvC scope cl C X.env) fp) ifs (tC call c)) ∧
      (∀ (s : Shared) (H : Hp) (C : Addr) (cl : List (Str × Addr)) (fp : List Addr), PE (X.blk s H scope (compEnvC scope cl C X.env) fp) elt (tE call false e)) ∧ (∀ x, foldedSetIterable i X.env x = pure x) := by
  have ok := blkOk_by h1
  have sto : ∀ {x : Str} (s : Shared) (H : Hp) (C : Addr) (cl : List (Str × Addr)) (fp : List Addr), (isK scope x .local || isK scope x .cell) = true → Sto (X.blk s H scope (compEnvC scope cl C X.env) fp) x := fun {x} s H C cl fp h => by
    rcases Bool.or_eq_true_iff.mp h with h | h
    · exact .inl (lookup_relS_keep (by decide) (isK_ok h))
    · refine .inr ⟨lookup_relS_keep (by decide) (isK_ok h), ?_⟩
      show (scope.names.lookup x == some .cell) = true
      rw [isK_ok h]; rfl
  refine ⟨ok, ?_, fun s H C cl fp => ?_, fun s H C cl fp => ?_, fun s H C cl fp => ?_, ?_⟩
  · cases hi with
    | rng hx hes => exact i_rng O hx hes ((ai X O).rg _ _ rfl hes true)
    | e hr hx => exact i_e ((ai X O).pe hx true)
  · have nms : ∀ (is : List Nat) (es : List Expr), chkNms X.N scope is es = true → Nms (X.blk s H scope (compEnvC scope cl C X.env) fp) is es := by
      intro is
      induction is with
      | nil => intro es h; cases es with
        | nil => exact .nil
        | cons => cases h
      | cons i is ih => intro es h; cases es with
        | nil => cases h
        | cons y es =>
          cases y with
          | Name x p =>
            simp only [chkNms, Bool.and_eq_true, decide_eq_true_eq] at h
            exact .cons h.1 (sto s H C cl fp h.2.1) (ih es h.2.2)
          | _ => cases h
    unfold chkT at h2
    split at h2
    · simp only [Bool.and_eq_true, decide_eq_true_eq] at h2
      exact g_nm (X := X.blk s H scope (compEnvC scope cl C X.env) fp) O.nd h2.1 (sto s H C cl fp h2.2)
    · exact g_tp (X := X.blk s H scope (compEnvC scope cl C X.env) fp) O.calm O.nd (nms _ _ h2)
    · cases h2
  · have O' := O.blk s H scope (compEnvC scope cl C X.env) fp
    cases hc with
    | nil hn => exact c_nil hn
    | one hn hz => exact c_one hn ((ac _ O').pt hz)
  · exact (ae _ (O.blk s H scope (compEnvC scope cl C X.env) fp)).pe he false
  · intro x
    cases hi with
    | rng => rfl
    | e _ hx => exact fold_ok (chk_plain hx) _ _
theorem snd (e : E) : ∀ (X : Cx), Ok call gi fns k X → All call gi fns X e := by
  induction e with
  | var i =>
    intro X O
    refine ⟨fun m pe h => ?_, fun xs h => (by cases h), fun es xs h => nomatch h⟩
    cases h with
    | var h1 h2 => exact out_pe (e_var h1 h2) (fun _ => rfl) m
  | int i =>
    intro X O
    refine ⟨fun m pe h => ?_, fun xs h => (by cases h), fun es xs h => nomatch h⟩
    cases h with
    | int => exact out_pe (e_const (c := (.int _)) (v := (.int _)) pe_int (fun _ _ _ => rfl) (fun _ _ => rfl)) (fun _ => rfl) m
  | str i =>
    intro X O
    refine ⟨fun m pe h => ?_, fun xs h => (by cases h), fun es xs h => nomatch h⟩
    cases h with
    | str => exact out_pe (e_const (c := (.str _)) (v := (.str _)) pe_str (fun _ _ _ => rfl) (fun _ _ => rfl)) (fun _ => rfl) m
  | bl i =>
    intro X O
    refine ⟨fun m pe h => ?_, fun xs h => (by cases h), fun es xs h => nomatch h⟩
    cases h with
    | bl => exact out_pe (e_const (c := (.bl _)) (v := (.bl _)) pe_bl (fun _ _ _ => rfl) (fun _ _ => rfl)) (fun _ => rfl) m
  | non =>
    intro X O
    refine ⟨fun m pe h => ?_, fun xs h => (by cases h), fun es xs h => nomatch h⟩
    cases h with
    | non => exact out_pe (e_const (c := .non) (v := .non) pe_non (fun _ _ _ => rfl) (fun _ _ => rfl)) (fun _ => rfl) m
  | gint j i =>
    intro X O
    refine ⟨fun m pe h => ?_, fun xs h => (by cases h), fun es xs h => nomatch h⟩
    cases h with
    | gint h1 h2 =>
      obtain ⟨tk, hm⟩ := O.gi _ _ _ h1
      obtain ⟨g1, g2⟩ := glo_ok h2
      exact out_pe (e_const (c := .int i) (v := .int i) (pe_glob g1 hm ⟨tk, rfl⟩ g2) (fun _ _ _ => rfl) (fun _ _ => rfl)) (fun _ => rfl) m
  | tup es ih =>
    intro X O
    refine ⟨fun m pe h => ?_, fun xs h => (by cases h), fun es xs h => nomatch h⟩
    cases h with
    | tup h1 => exact out_pe (e_tup ((ih X O).list h1 false)) (fun _ => rfl) m
  | lst es ih =>
    intro X O
    refine ⟨fun m pe h => ?_, fun xs h => (by cases h), fun es xs h => nomatch h⟩
    cases h with
    | lst h1 => exact out_g (g_lst ((ih X O).list h1 false)) (fun _ _ _ => rfl) (fun _ => rfl) m
  | nil =>
    intro X O
    refine ⟨fun m pe h => (by cases h), fun xs h b => ?_, fun es xs h => nomatch h⟩
    cases h with
    | nil => exact a_nil b
  | cons e es ih1 ih2 =>
    intro X O
    refine ⟨fun m pe h => (by cases h), fun xs h b => ?_, fun es xs h => nomatch h⟩
    cases h with
    | cons h1 h2 h3 => exact a_cons b h1 ((ih1 X O).pe h2 b) ((ih2 X O).list h3 b)
  | bin op a b ih1 ih2 =>
    intro X O
    refine ⟨fun m pe h => ?_, fun xs h => (by cases h), fun es xs h => nomatch h⟩
    cases h with
    | bin h1 h2 => exact out_g (g_bin ((ih1 X O).pe h1 true) ((ih2 X O).pe h2 true)) (fun _ _ _ => rfl) (fun _ => rfl) m
  | neg a ih =>
    intro X O
    refine ⟨fun m pe h => ?_, fun xs h => (by cases h), fun es xs h => nomatch h⟩
    cases h with
    | neg h1 => exact out_pe (e_neg ((ih X O).pe h1 true)) (fun _ => rfl) m
  | not a ih =>
    intro X O
    refine ⟨fun m pe h => ?_, fun xs h => (by cases h), fun es xs h => nomatch h⟩
    cases h with
    | not h1 => cases m with
      | false => exact e_not ((ih X O).pe h1 true)
      | true => exact t_not ((ih X O).pt h1)
  | and a b ih1 ih2 =>
    intro X O
    refine ⟨fun m pe h => ?_, fun xs h => (by cases h), fun es xs h => nomatch h⟩
    cases h with
    | and1 h1 h2 => cases m with
      | false => exact fun q => e_and ((ih1 X O).pe h1 q) (pe_one ((ih2 X O).pe h2 q))
      | true => exact t_and ((ih1 X O).pt h1) (pw_and1 ((ih2 X O).pt h2))
    | and h1 h2 => cases m with
      | false => exact fun q => e_and ((ih1 X O).pe h1 q) ((ih2 X O).pe h2 q)
      | true => exact t_and ((ih1 X O).pt h1) (PW.of ((ih2 X O).pt h2))
  | or a b ih1 ih2 =>
    intro X O
    refine ⟨fun m pe h => ?_, fun xs h => (by cases h), fun es xs h => nomatch h⟩
    cases h with
    | or1 h1 h2 => cases m with
      | false => exact fun q => e_or ((ih1 X O).pe h1 q) (pe_one ((ih2 X O).pe h2 q))
      | true => exact t_or ((ih1 X O).pt h1) (pw_or1 ((ih2 X O).pt h2))
    | or h1 h2 => cases m with
      | false => exact fun q => e_or ((ih1 X O).pe h1 q) ((ih2 X O).pe h2 q)
      | true => exact t_or ((ih1 X O).pt h1) (PW.of ((ih2 X O).pt h2))
  | cmp op a b ih1 ih2 =>
    intro X O
    have hu : X.A.units + 65 < cLine := by have := O.hr.un; omega
    refine ⟨fun m pe h => ?_, fun xs h => (by cases h), fun es xs h => nomatch h⟩
    cases h with
    | cmp h0 h1 h2 => cases m with
      | false => exact e_cmp hu h0 ((ih1 X O).pe h1 true) ((ih2 X O).pe h2 true)
      | true => exact t_cmp hu h0 ((ih1 X O).pe h1 true) ((ih2 X O).pe h2 true)
  | chn o p a b c ih1 ih2 ih3 =>
    intro X O
    have hu : X.A.units + 65 < cLine := by have := O.hr.un; omega
    refine ⟨fun m pe h => ?_, fun xs h => (by cases h), fun es xs h => nomatch h⟩
    cases h with
    | chn h0 h1 h2 h3 => cases m with
      | false => exact e_chn hu h0 ((ih1 X O).pe h1 true) ((ih2 X O).pe h2 true) ((ih3 X O).pe h3 true)
      | true => exact t_chn hu h0 ((ih1 X O).pe h1 true) ((ih2 X O).pe h2 true) ((ih3 X O).pe h3 true)
  | ite c a b ih1 ih2 ih3 =>
    intro X O
    refine ⟨fun m pe h => ?_, fun xs h => (by cases h), fun es xs h => nomatch h⟩
    cases h with
    | ite h1 h2 h3 => exact fun q => e_ite ((ih1 X O).pt h1) ((ih2 X O).pe h2 q) ((ih3 X O).pe h3 q)
  | call f es ih =>
    intro X O
    refine ⟨fun m pe h => ?_, fun xs h => (by cases h), fun es xs h => nomatch h⟩
    cases h with
    | call h1 h2 h3 => exact out_pe (e_call O h1 h2 h3 ((ih X O).list h3 false)) (fun _ => rfl) m
  | blt f es ih =>
    intro X O
    refine ⟨fun m pe h => ?_, fun xs h => (by cases h), fun es xs h => nomatch h⟩
    cases h with
    | blt h1 h2 => exact out_g (g_blt O h1 h2 ((ih X O).list h2 true)) (fun _ _ _ => rfl) (fun _ => rfl) m
  | ix a i ih1 ih2 =>
    intro X O
    refine ⟨fun m pe h => ?_, fun xs h => (by cases h), fun es xs h => nomatch h⟩
    cases h with
    | ix h0 h1 h2 => exact out_pe (e_ix h0 ((ih1 X O).pe h1 true) ((ih2 X O).pe h2 true)) (fun _ => rfl) m
  | sl a lo hi ih1 ih2 ih3 =>
    intro X O
    refine ⟨fun m pe h => ?_, fun xs h => (by cases h), fun es xs h => nomatch h⟩
    cases h with
    | sl h1 h2 h3 => exact out_g (g_sl ((ih1 X O).pe h1 true) (g_opt (ih2 X O) h2) (g_opt (ih3 X O) h3)) (fun _ _ _ => rfl) (fun _ => rfl) m
  | rev a ih =>
    intro X O
    refine ⟨fun m pe h => ?_, fun xs h => (by cases h), fun es xs h => nomatch h⟩
    cases h with
    | rev h1 => exact out_g (g_rev ((ih X O).pe h1 true)) (fun _ _ _ => rfl) (fun _ => rfl) m
  | comp own tg it c e ih1 ih2 ih3 =>
    intro X O
    refine ⟨fun m pe h => ?_, fun xs h => (by cases h), fun es xs h => nomatch h⟩
    cases h with
    | comp h1 h2 h3 hi hc he =>
      obtain ⟨ok, pi, pg, pt, pe', hs⟩ := g_comp O h1 h2 h3 hi hc he ih1 ih2 ih3
      exact out_g (PE.imp (pe_lc O.calm O.nd pi ok pg pt pe' hs) (g_comp_imp h3)) (fun _ _ _ => rfl) (fun _ => rfl) m
  | rng es ih =>
    intro X O
    refine ⟨fun m pe h => (by cases h), fun xs h => (by cases h), fun es xs h c b => ?_⟩
    cases h
    exact (ih X O).list c b
end
end Ev

/-! Ev8: statements. -/
namespace Ev
open PySem PySem.Spec PyProof.Rows L2

/-! ### stores of written tuples -/
def rowNames (sc : Scope) (ts : List Expr) : List Str :=
  ts.filterMap fun
    | .Name id pos => if sc.names.lookup id == some .local && pos.line == (ts.head?.map (·.pos.line)).getD 0 then some id else none
    | _ => none
/-- a tuple is made and unpacked -/
def tupleB (sc : Scope) (ts vs : List Expr) : Bool :=
  !((ts.length == 2 || ts.length == 3) && vs.length == ts.length) || ((rowNames sc ts).length != ts.length || ((rowNames sc ts).eraseDups.length != (rowNames sc ts).length || vs.all (foldedForSure 8)))
def tupC (sc : Scope) : Expr → Expr → Bool
  | .Tuple ts _ _, .Tuple vs _ _ => tupleB sc ts vs
  | _, _ => true
theorem sw_none {env : Env} {ts vs : List Expr} {k1 k2 : Nat} {p1 p2 : Pos} (h : tupleB env.scope ts vs = true) : swappedStores [.Tuple ts k1 p1] (.Tuple vs k2 p2) env = pure none := by
  unfold swappedStores
  simp only [pure_bind]
  by_cases A : (!(ts.length == 2 || ts.length == 3) || vs.length != ts.length || env.blockKind != .function) = true
  · rw [if_pos A]
  · rw [if_neg A]
    rw [Bool.not_eq_true, Bool.or_eq_false_iff, Bool.or_eq_false_iff] at A
    have a1 : (ts.length == 2 || ts.length == 3) = true := by
      have := A.1.1
      rwa [Bool.not_eq_false'] at this
    have a2 : (vs.length == ts.length) = true := by simpa using A.1.2
    unfold tupleB at h
    rw [a1, a2] at h
    simp only [Bool.and_self, Bool.not_true, Bool.false_or] at h
    split
    · rfl
    · show (if ((rowNames env.scope ts).length != ts.length || (rowNames env.scope ts).eraseDups.length != (rowNames env.scope ts).length) = true then pure none else if vs.all (foldedForSure 8) = true then pure none else _) = pure none
      by_cases B : ((rowNames env.scope ts).length != ts.length || (rowNames env.scope ts).eraseDups.length != (rowNames env.scope ts).length) = true
      · rw [if_pos B]
      · rw [if_neg B]
        rw [Bool.not_eq_true, Bool.or_eq_false_iff] at B
        rw [B.1, B.2, Bool.false_or, Bool.false_or] at h
        rw [if_pos h]
theorem sw2 {env : Env} {x y : Str} {a b : Expr} {px py p1 p2 : Pos} {k1 k2 : Nat} (hk : env.scope.kind = .function) (hx : env.scope.names.lookup x = some .local) (hy : env.scope.names.lookup y = some .local) (hl : (py.line == px.line) = true) (hxy : x ≠ y)
    (ha : plainX a = true) (hb : plainX b = true) (hf : [a, b].all (foldedForSure 8) = false) (hc : [a, b].all (constantsAlone 8) = false) :
    swappedStores [.Tuple [.Name x px, .Name y py] k1 p1] (.Tuple [a, b] k2 p2) env = pure (some [x, y]) := by
  have hbk : env.blockKind = .function := by unfold Env.blockKind; rw [hk]; rfl
  have kx : env.kindOf x = some .local := hx
  have ky : env.kindOf y = some .local := hy
  have sa : ∀ {a : Expr}, plainX a = true → (match a with | .Starred .. => true | _ => false) = false := fun {a} ha => by
    cases a <;> first | rfl | cases ha
  have st : ([a, b].any fun | .Starred .. => true | _ => false) = false := by
    simp only [List.any_cons, List.any_nil, Bool.or_false, Bool.or_eq_false_iff]
    exact ⟨sa ha, sa hb⟩
  have ed : [x, y].eraseDups = [x, y] := by
    have e1 : (y == x) = false := beq_eq_false_iff_ne.mpr (Ne.symm hxy)
    simp [List.eraseDups, List.eraseDupsBy, List.eraseDupsBy.loop, e1]
  unfold swappedStores
  simp only [pure_bind]
  rw [if_neg (by simp [hbk])]
  refine (if_neg (Bool.eq_false_iff.mp st)).trans ?_
  simp only [List.filterMap_cons, List.filterMap_nil, kx, ky, List.head?_cons, Option.map_some, Option.getD_some, Expr.pos, hl, beq_self_eq_true, Bool.and_self, if_true]
  rw [if_neg (by rw [ed]; simp), if_neg (by rw [hf]; decide), if_neg (by rw [hc]; decide)]
theorem sw3 {env : Env} {x y z : Str} {a b c : Expr} {px py pz p1 p2 : Pos} {k1 k2 : Nat} (hk : env.scope.kind = .function) (hx : env.scope.names.lookup x = some .local) (hy : env.scope.names.lookup y = some .local) (hz : env.scope.names.lookup z = some .local)
    (hl : (py.line == px.line) = true) (hl2 : (pz.line == px.line) = true) (hxy : x ≠ y) (hxz : x ≠ z) (hyz : y ≠ z)
    (ha : plainX a = true) (hb : plainX b = true) (hcc : plainX c = true) (hf : [a, b, c].all (foldedForSure 8) = false) (hc : [a, b, c].all (constantsAlone 8) = false) :
    swappedStores [.Tuple [.Name x px, .Name y py, .Name z pz] k1 p1] (.Tuple [a, b, c] k2 p2) env = pure (some [x, y, z]) := by
  have hbk : env.blockKind = .function := by unfold Env.blockKind; rw [hk]; rfl
  have kx : env.kindOf x = some .local := hx
  have ky : env.kindOf y = some .local := hy
  have kz : env.kindOf z = some .local := hz
  have sa : ∀ {a : Expr}, plainX a = true → (match a with | .Starred .. => true | _ => false) = false := fun {a} ha => by
    cases a <;> first | rfl | cases ha
  have st : ([a, b, c].any fun | .Starred .. => true | _ => false) = false := by
    simp only [List.any_cons, List.any_nil, Bool.or_false, Bool.or_eq_false_iff]
    exact ⟨sa ha, sa hb, sa hcc⟩
  have ed : [x, y, z].eraseDups = [x, y, z] := by
    have e1 : (y == x) = false := beq_eq_false_iff_ne.mpr (Ne.symm hxy)
    have e2 : (z == x) = false := beq_eq_false_iff_ne.mpr (Ne.symm hxz)
    have e3 : (z == y) = false := beq_eq_false_iff_ne.mpr (Ne.symm hyz)
    simp [List.eraseDups, List.eraseDupsBy, List.eraseDupsBy.loop, e1, e2, e3]
  unfold swappedStores
  simp only [pure_bind]
  rw [if_neg (by simp [hbk])]
  refine (if_neg (Bool.eq_false_iff.mp st)).trans ?_
  simp only [List.filterMap_cons, List.filterMap_nil, kx, ky, kz, List.head?_cons, Option.map_some, Option.getD_some, Expr.pos, hl, hl2, beq_self_eq_true, Bool.and_self, if_true]
  rw [if_neg (by rw [ed]; simp), if_neg (by rw [hf]; decide), if_neg (by rw [hc]; decide)]

/-! ### the check -/
section
variable (gi : List (Str × Int)) (fns : List Str) (N : List Str) (sc : Scope)
def stoB (i : Nat) (x : Str) : Bool := decide (N[i]? = some x) && (isK sc x .local || isK sc x .cell)
mutual
def chk1 : S → Stmt → Bool
  | .frz _ a, st => chk1 a st
  | .asg tg e, .Assign [t] pe _ => chkT N sc tg t && (chk gi fns N e sc false pe && tupC sc t pe)
  | .par [i, j] es, .Assign [.Tuple [.Name x px, .Name y py] _ _] (.Tuple [a, b] _ _) _ => (tupleB sc [.Name x px, .Name y py] [a, b] && (stoB N sc i x && (stoB N sc j y && chkEs gi fns N es sc [a, b]))) || (decide (N[i]? = some x ∧ N[j]? = some y ∧ i ≠ j) && (isK sc x .local && (isK sc y .local && ((py.line == px.line) && (decide (x ≠ y) &&
      (!([a, b].all (foldedForSure 8)) && (!([a, b].all (constantsAlone 8)) && chkEs gi fns N es sc [a, b])))))))
  | .par [i, j, l] es, .Assign [.Tuple [.Name x px, .Name y py, .Name z pz] _ _] (.Tuple [a, b, c] _ _) _ => decide (N[i]? = some x ∧ N[j]? = some y ∧ N[l]? = some z ∧ i ≠ j ∧ i ≠ l ∧ j ≠ l) && (isK sc x .local && (isK sc y .local && (isK sc z .local &&
      ((py.line == px.line) && ((pz.line == px.line) && (decide (x ≠ y ∧ x ≠ z ∧ y ≠ z) &&
      (!([a, b, c].all (foldedForSure 8)) && (!([a, b, c].all (constantsAlone 8)) && chkEs gi fns N es sc [a, b, c]))))))))
  | .aug i neg e, .AugAssign (.Name x _) op pe _ => decide (op = if neg then .Sub else .Add) && (stoB N sc i x && chk gi fns N e sc false pe)
  | .setix i ix e, .Assign [.Subscript (.Name x _) y _] pe _ => decide (N[i]? = some x) && (visB sc x && (chk gi fns N ix sc false y && chk gi fns N e sc false pe))
  | .app i e, .Expr (.Call (.Attribute (.Name x _) m ap) [y] [] cp) _ => decide (m = ("append" : Str) ∧ N[i]? = some x) && (visB sc x && ((ap.endLine == cp.line) && chk gi fns N e sc false y))
  | .ext i e, .Expr (.Call (.Attribute (.Name x _) m ap) [y] [] cp) _ => decide (m = ("extend" : Str) ∧ N[i]? = some x) && (visB sc x && ((ap.endLine == cp.line) && chk gi fns N e sc false y))
  | .ins i k e, .Expr (.Call (.Attribute (.Name x _) m ap) [z, y] [] cp) _ => decide (m = ("insert" : Str) ∧ N[i]? = some x) && (visB sc x && ((ap.endLine == cp.line) && (chk gi fns N k sc false z && chk gi fns N e sc false y)))
  | .ifS c a b, .If pc xs ys _ => chk gi fns N c sc true pc && (chkSs a xs && chkSs b ys)
  | .whileS _ c b, .While pc xs [] _ => chk gi fns N c sc true pc && chkSs b xs
  | .forS tg (.rng es) b, .For t (.Call (.Name x _) ys [] _) xs [] _ => chkT N sc tg t && (decide (x = ("range" : Str)) && (isK sc x .globalImplicit && (chkEs gi fns N es sc ys && chkSs b xs)))
  | .forS tg it b, .For t i xs [] _ => chkT N sc tg t && (!it.isRng && (chk gi fns N it sc false i && chkSs b xs))
  | .ret e, .Return (some pe) _ => chk gi fns N e sc false pe
  | .brk, .Break _ => true
  | .cont, .Continue _ => true
  | .bad, _ => true
  | _, _ => false
def chkSs : S → List Stmt → Bool
  | .nil, [] => true
  | .seq a b, st :: r => chk1 a st && chkSs b r
  | _, _ => false
end
end
end Ev

/-! Ev9: each statement's rule. -/
namespace Ev
open PySem PySem.Spec PyProof.Rows L2
section
variable {call : Nat → List D → DS → R D} {gi : List (Str × Int)} {fns : List Str} {k : Nat} {X : Cx} {a0 c0 : Addr} {F G G' H H' : Hp} {ρ ρ' : EnvD} {σ σ' : L2.St} {t t' : DS}

/-- what is wanted behind a statement, by how it ends -/
def FlOk (a0 c0 : Addr) (F G : Hp) (t : DS) (Dn : Ends) : Fl → Prop
  | .nx ρ => ∀ σ' H' G', Sub G G' → RE a0 c0 F G' ρ σ' H' t → Dn.nx σ' H'
  | .bk ρ => ∀ σ' H' G', Sub G G' → RE a0 c0 F G' ρ σ' H' t → Dn.bk σ' H'
  | .ct ρ => ∀ σ' H' G', Sub G G' → RE a0 c0 F G' ρ σ' H' t → Dn.ct σ' H'
  | .rt d => ∀ v H' G', Sub G G' → Sub F H' → Sub G' H' → (∀ b o, F b = some o → G' b = none) → StOk a0 c0 F G' H' t → Rep a0 G' d v → Dn.rt v H'
theorem FlOk.up {Dn : Ends} {fl : Fl} (h : FlOk a0 c0 F G t Dn fl) (s : Sub G G') : FlOk a0 c0 F G' t Dn fl := by
  cases fl with
  | nx ρ => exact fun σ' H' G2 s2 => h σ' H' G2 (s.trans s2)
  | bk ρ => exact fun σ' H' G2 s2 => h σ' H' G2 (s.trans s2)
  | ct ρ => exact fun σ' H' G2 s2 => h σ' H' G2 (s.trans s2)
  | rt d => exact fun v H' G2 s2 => h v H' G2 (s.trans s2)
def tS (call : Nat → List D → DS → R D) (W : Nat) (s : S) : TS := fun Dn σ H => ∃ a0 c0 F G ρ t fl t', RE a0 c0 F G ρ σ H t ∧ exec call W s ρ t = some (fl, t') ∧ FlOk a0 c0 F G t' Dn fl
theorem PS.imp {st : Stmt} {te te' : TS} (h : PS X st te) (hi : ∀ Dn σ H, te' Dn σ H → te Dn σ H) : PS X st te' := ⟨fun pins s σ H Dn I q => h.run pins s σ H Dn I (hi Dn σ H q)⟩
theorem PSs.imp {st : List Stmt} {te te' : TS} (h : PSs X st te) (hi : ∀ Dn σ H, te' Dn σ H → te Dn σ H) : PSs X st te' := ⟨fun pins s σ H Dn I q => h.run pins s σ H Dn I (hi Dn σ H q)⟩

/-! ### freezing -/
theorem RE.frz1 (R : RE a0 c0 F G ρ σ H t) (i : Nat) : ∃ G', Sub G G' ∧ RE a0 c0 F G' (frz1 ρ i) σ H t := by
  unfold Ev.frz1
  split
  · rename_i ds e
    obtain ⟨a, vs, h1, h2, h3, h4, h5, h6, h7⟩ := R.ow i ds e
    have k := Sub.upd (o := HO.lst vs) h4
    have hl : i < ρ.length := (List.getElem?_eq_some_iff.mp e).1
    refine ⟨upd G a (.lst vs), k, R.fh, fun b u q => ?_, fun b u q => ?_, ⟨R.st.h0, R.st.hc, R.st.f0, R.st.fc, ?_, ?_⟩, fun j d q => ?_, fun j es q => ?_, fun j l es es' b q1 q2 q3 q4 => ?_, by simp [R.len]⟩
    · by_cases hb : b = a
      · subst hb; rw [upd_same] at q; cases q; exact h2
      · rw [upd_ne hb] at q; exact R.gh b u q
    · rw [upd_ne (by rintro rfl; rw [h3] at q; cases q)]; exact R.fg b u q
    · rw [upd_ne (Ne.symm h5)]; exact R.st.g0
    · rw [upd_ne (Ne.symm h6)]; exact R.st.gc
    · by_cases hj : i = j
      · subst hj
        rw [List.getElem?_set_self hl] at q; cases q
        exact ⟨_, h1, Rep.lstI upd_same (Reps.mono k _ _ h7)⟩
      · rw [List.getElem?_set_ne hj] at q
        obtain ⟨v, g1, g2⟩ := R.sh j d q
        exact ⟨v, g1, Rep.mono k d v g2⟩
    · have hj : i ≠ j := by rintro rfl; rw [List.getElem?_set_self hl] at q; cases q
      rw [List.getElem?_set_ne hj] at q
      obtain ⟨b, us, g1, g2, g3, g4, g5, g6, g7⟩ := R.ow j es q
      have hne : b ≠ a := by rintro rfl; exact hj (R.inj i j ds es b e q h1 g1)
      exact ⟨b, us, g1, g2, g3, by rw [upd_ne hne]; exact g4, g5, g6, Reps.mono k _ _ g7⟩
    · have n1 : i ≠ j := by rintro rfl; rw [List.getElem?_set_self hl] at q1; cases q1
      have n2 : i ≠ l := by rintro rfl; rw [List.getElem?_set_self hl] at q2; cases q2
      rw [List.getElem?_set_ne n1] at q1
      rw [List.getElem?_set_ne n2] at q2
      exact R.inj j l es es' b q1 q2 q3 q4
  · exact ⟨G, Sub.refl, R⟩
theorem RE.frz : ∀ (is : List Nat) {ρ : EnvD} {G : Hp}, RE a0 c0 F G ρ σ H t → ∃ G', Sub G G' ∧ RE a0 c0 F G' (frz ρ is) σ H t
  | [], _, G, R => ⟨G, Sub.refl, R⟩
  | i :: is, _, _, R => by
    obtain ⟨G1, s1, R1⟩ := R.frz1 i
    obtain ⟨G2, s2, R2⟩ := RE.frz is R1
    exact ⟨G2, s1.trans s2, R2⟩
theorem s_frz {W : Nat} {is : List Nat} {a : S} {st : Stmt} (h : PS X st (tS call W a)) : PS X st (tS call W (.frz is a)) := by
  refine PS.imp h ?_
  rintro Dn σ H ⟨a0, c0, F, G, ρ, t, fl, t', R, ev, q⟩
  obtain ⟨G1, s1, R1⟩ := R.frz is
  exact ⟨a0, c0, F, G1, _, t, fl, t', R1, ev, q.up s1⟩
theorem ss_nil {W : Nat} : PSs X [] (tS call W .nil) := by
  refine PSs.imp pss_nil ?_
  rintro Dn σ H ⟨a0, c0, F, G, ρ, t, fl, t', R, ev, q⟩
  cases ev
  exact q σ H G Sub.refl R
theorem ss_cons {W : Nat} {a b : S} {st : Stmt} {r : List Stmt} (h1 : PS X st (tS call W a)) (h2 : PSs X r (tS call W b)) : PSs X (st :: r) (tS call W (.seq a b)) := by
  refine PSs.imp (pss_cons h1 h2) ?_
  rintro Dn σ H ⟨a0, c0, F, G, ρ, t, fl, t', R, ev, q⟩
  simp only [exec] at ev
  split at ev
  · rename_i ρ1 t1 e1
    exact ⟨a0, c0, F, G, ρ, t, _, t1, R, e1, fun σ' H' G' s R' => ⟨a0, c0, F, G', ρ1, t1, fl, t', R', ev, q.up s⟩⟩
  · rename_i hn
    refine ⟨a0, c0, F, G, ρ, t, fl, t', R, ev, ?_⟩
    cases fl with
    | nx ρ1 => exact absurd ev (hn ρ1 t')
    | bk ρ => exact q
    | ct ρ => exact q
    | rt d => exact q

/-! ### new lists in slots -/
theorem RE.setO {i : Nat} {ds : List D} {v : V} (R : RE a0 c0 F G ρ σ H t) (f : Fr a0 c0 F G ρ σ H ds v) : RE a0 c0 F G (ρ.set i (some (.own ds))) (σ.set i (some v)) H t := by
  obtain ⟨a, vs, rfl, h, f, g, n0, nc, no, r⟩ := f.ex
  by_cases hl' : ¬ i < ρ.length
  · rw [List.set_eq_of_length_le (by omega), List.set_eq_of_length_le (by have := R.len; omega)]; exact R
  have hl : i < ρ.length := by omega
  have hs : i < σ.length := by rw [R.len]; exact hl
  refine ⟨R.fh, R.gh, R.fg, R.st, fun j d q => ?_, fun j es q => ?_, fun j l es es' b q1 q2 q3 q4 => ?_, by simp [R.len]⟩
  · have hj : i ≠ j := by rintro rfl; rw [List.getElem?_set_self hl] at q; cases q
    rw [List.getElem?_set_ne hj] at q ⊢
    exact R.sh j d q
  · by_cases hj : i = j
    · subst hj
      rw [List.getElem?_set_self hl] at q; cases q
      exact ⟨a, vs, List.getElem?_set_self hs, h, f, g, n0, nc, r⟩
    · rw [List.getElem?_set_ne hj] at q ⊢
      exact R.ow j es q
  · by_cases hj : i = j
    · subst hj
      by_cases hk : i = l
      · exact hk
      · rw [List.getElem?_set_ne hk] at q2 q4
        rw [List.getElem?_set_self hs] at q3; cases q3
        exact absurd q4 (no l es' q2)
    · rw [List.getElem?_set_ne hj] at q1 q3
      by_cases hk : i = l
      · subst hk
        rw [List.getElem?_set_self hs] at q4; cases q4
        exact absurd q3 (no j es q1)
      · rw [List.getElem?_set_ne hk] at q2 q4
        exact R.inj j l es es' b q1 q2 q3 q4
/-- a slot's own list is changed -/
theorem RE.updO {i : Nat} {ds es : List D} {a : Addr} {us : List V} (R : RE a0 c0 F G ρ σ H t) (e : ρ[i]? = some (some (Sl.own ds))) (ea : σ[i]? = some (some (V.ref a))) (r : Reps a0 G es us) :
    RE a0 c0 F G (ρ.set i (some (.own es))) σ (upd H a (.lst us)) t := by
  obtain ⟨a', vs, h1, h2, h3, h4, h5, h6, h7⟩ := R.ow i ds e
  rw [ea] at h1; cases h1
  have hl : i < ρ.length := (List.getElem?_eq_some_iff.mp e).1
  refine ⟨fun b u q => ?_, fun b u q => ?_, R.fg, ⟨?_, ?_, R.st.f0, R.st.fc, R.st.g0, R.st.gc⟩, fun j d q => ?_, fun j es' q => ?_, fun j l es1 es2 b q1 q2 q3 q4 => ?_, by simp [R.len]⟩
  · rw [upd_ne (by rintro rfl; rw [h3] at q; cases q)]; exact R.fh b u q
  · rw [upd_ne (by rintro rfl; rw [h4] at q; cases q)]; exact R.gh b u q
  · rw [upd_ne (Ne.symm h5)]; exact R.st.h0
  · rw [upd_ne (Ne.symm h6)]; exact R.st.hc
  · have hj : i ≠ j := by rintro rfl; rw [List.getElem?_set_self hl] at q; cases q
    rw [List.getElem?_set_ne hj] at q
    exact R.sh j d q
  · by_cases hj : i = j
    · subst hj
      rw [List.getElem?_set_self hl] at q; cases q
      exact ⟨a, us, ea, upd_same, h3, h4, h5, h6, r⟩
    · rw [List.getElem?_set_ne hj] at q
      obtain ⟨b, ws, g1, g2, g⟩ := R.ow j es' q
      have hne : b ≠ a := by rintro rfl; exact hj (R.inj i j ds es' b e q ea g1)
      exact ⟨b, ws, g1, by rw [upd_ne hne]; exact g2, g⟩
  · have own : ∀ {j : Nat} {es' : List D}, (ρ.set i (some (Sl.own es)))[j]? = some (some (Sl.own es')) → ∃ es'', ρ[j]? = some (some (Sl.own es'')) := fun {j es'} q => by
      by_cases hj : i = j
      · subst hj; exact ⟨ds, e⟩
      · rw [List.getElem?_set_ne hj] at q; exact ⟨_, q⟩
    obtain ⟨x1, y1⟩ := own q1
    obtain ⟨x2, y2⟩ := own q2
    exact R.inj j l x1 x2 b y1 y2 q3 q4
def ResN (nw : Bool) (a0 c0 : Addr) (F : Hp) (ρ : EnvD) (σ : L2.St) (d : D) (G H : Hp) (v : V) : Prop := if nw = true then ResG a0 c0 F ρ σ d G H v else Rep a0 G d v
/-- an expression, new where its form is new -/
def tN (call : Nat → List D → DS → R D) (e : E) : TE := fun σ H Q => ∃ a0 c0 F G ρ t d t', RE a0 c0 F G ρ σ H t ∧ evE call e e.isNew ρ t = some (d, t') ∧
  Post a0 c0 F G ρ σ H t' (ResN e.isNew a0 c0 F ρ σ d) Q
def gV (tg : T) (nw : Bool) : TG := fun v σ H Q => ∃ a0 c0 F G ρ t d ρ', RE a0 c0 F G ρ σ H t ∧ ResN nw a0 c0 F ρ σ d G H v ∧ asgV tg nw d ρ = some ρ' ∧ ∀ σ', RE a0 c0 F G ρ' σ' H t → Q σ' H
theorem ResN.rep {nw : Bool} {d : D} {v : V} (h : ResN nw a0 c0 F ρ σ d G H v) (hd : ∀ ds, d ≠ .lst ds) : Rep a0 G d v := by
  unfold ResN at h
  split at h
  · unfold ResG at h
    split at h
    · exact absurd rfl (hd _)
    · exact h
  · exact h
theorem v_nm {i : Nat} {x : Str} {pos : Pos} {nw : Bool} (nd : X.N.Nodup) (hi : X.N[i]? = some x) (hx : Sto X x) : PG X (.Name x pos) (gV (.nm i) nw) := by
  refine PG.imp (pg_name nd hi (hx.imp id (·.1)) (hx.symm.imp (·.2) id)) ?_
  rintro v σ H Q ⟨a0, c0, F, G, ρ, t, d, ρ', R, r, e, q⟩
  by_cases hb : nw = true ∧ ∃ ds, d = .lst ds
  · obtain ⟨rfl, ds, rfl⟩ := hb
    cases e
    exact q _ (R.setO r)
  · have rr : Rep a0 G d v := by
      cases nw with
      | false => exact r
      | true => exact r.rep fun ds hd => hb ⟨rfl, ds, hd⟩
    have e2 : asgT (.nm i) d ρ = some ρ' := by
      unfold asgV at e
      split at e
      · exact absurd ⟨rfl, _, rfl⟩ hb
      · exact e
    cases e2
    exact q _ (R.setV rr)
theorem v_tp {is : List Nat} {e : Expr} {nw : Bool} (h : PG X e (gT (.tp is))) : PG X e (gV (.tp is) nw) := by
  refine PG.imp h ?_
  rintro v σ H Q ⟨a0, c0, F, G, ρ, t, d, ρ', R, r, e, q⟩
  have e2 : asgT (.tp is) d ρ = some ρ' := by
    unfold asgV at e
    split at e
    · rename_i h; cases h
    · exact e
  have hd : ∀ ds, d ≠ .lst ds := fun ds z => by subst z; cases e2
  exact ⟨a0, c0, F, G, ρ, t, d, ρ', R, r.rep hd, e2, fun σ' R' _ => q σ' R'⟩
theorem asg_imp {W : Nat} {tg : T} {e : E} : ∀ Dn σ H, tS call W (.asg tg e) Dn σ H → tAsg (tN call e) (gV tg e.isNew) Dn σ H := by
  rintro Dn σ H ⟨a0, c0, F, G, ρ, t, fl, t', R, ev, q⟩
  simp only [exec] at ev
  split at ev
  · rename_i d t1 e1
    split at ev
    · rename_i ρ' e2
      cases ev
      exact ⟨a0, c0, F, G, ρ, t, d, _, R, e1, fun v H1 G1 s1 k1 R1 r1 => ⟨a0, c0, F, G1, ρ, _, d, ρ', R1, r1, e2, fun σ' R' => q σ' H1 G1 s1 R'⟩⟩
    · cases ev
  · cases ev
/-- a statement of one target -/
theorem s_asg {W : Nat} {tg : T} {e : E} {te pe : Expr} {p : Pos} (h : PE X pe (tN call e)) (hg : PG X te (gV tg e.isNew)) (hs : swapsWithSole [te] pe p.line X.env = pure false) (hw : swappedStores [te] pe X.env = pure none) (h1 : (assignEach [te] X.env).map (·.2) = [assign te X.env]) :
    PS X (.Assign [te] pe p) (tS call W (.asg tg e)) := PS.imp (ps_asg h hg hs hw h1) asg_imp
theorem n_of_e {e : E} {pe : Expr} (h : PE X pe (tE call false e)) (hn : e.isNew = false) : PE X pe (tN call e) := by
  refine PE.imp h ?_
  rintro σ H Q ⟨a0, c0, F, G, ρ, t, d, t', R, ev, q⟩
  rw [hn] at ev
  exact ⟨a0, c0, F, G, ρ, t, d, t', R, ev, fun v H' G' s k R' r => q v H' G' s k R' (by unfold ResN; rw [hn, if_neg Bool.false_ne_true]; exact r)⟩
theorem n_of_g {e : E} {pe : Expr} (h : PE X pe (tG call e)) (hn : e.isNew = true) : PE X pe (tN call e) := by
  refine PE.imp h ?_
  rintro σ H Q ⟨a0, c0, F, G, ρ, t, d, t', R, ev, q⟩
  rw [hn] at ev
  exact ⟨a0, c0, F, G, ρ, t, d, t', R, ev, fun v H' G' s k R' r => q v H' G' s k R' (by unfold ResN; rw [hn, if_pos rfl]; exact r)⟩
/-! ### x op= e -/
theorem s_aug {W i : Nat} {neg : Bool} {e : E} {x : Str} {op : Operator} {pe : Expr} {p p2 : Pos} (nd : X.N.Nodup) (hi : X.N[i]? = some x) (hx : Sto X x) (ho : op = if neg then .Sub else .Add) (h : PE X pe (tE call true e)) : PS X (.AugAssign (.Name x p2) op pe p) (tS call W (.aug i neg e)) := by
  have hp : PIp X op (ipI fun a b => if neg then a - b else a + b) := by
    subst ho
    cases neg with
    | true => exact ip_sub
    | false => exact ip_add
  refine PS.imp (ps_aug nd hi (hx.imp id (·.1)) h hp (hx.symm.imp (·.2) id)) ?_
  rintro Dn σ H ⟨a0, c0, F, G, ρ, t, fl, t', R, ev, q⟩
  simp only [exec] at ev
  split at ev
  · rename_i x1 e1
    split at ev
    · rename_i y1 t1 e2
      cases ev
      obtain ⟨v, g1, g2⟩ := R.sh _ _ e1
      refine ⟨v, g1, op1 R e2 fun u H1 G1 s k R1 r => ⟨x1, y1, g2, r.int, ?_⟩⟩
      exact q _ H1 G1 s (R1.setV rfl)
    · cases ev
  · cases ev
/-! ### loops, ifs, returns -/
theorem s_if {W : Nat} {c : E} {a b : S} {pc : Expr} {xs ys : List Stmt} {p : Pos} (hc : PT X pc (tT call c)) (ha : PSs X xs (tS call W a)) (hb : PSs X ys (tS call W b)) : PS X (.If pc xs ys p) (tS call W (.ifS c a b)) := by
  refine PS.imp (ps_if hc ha hb) ?_
  rintro Dn σ H ⟨a0, c0, F, G, ρ, t, fl, t', R, ev, q⟩
  simp only [exec] at ev
  split at ev
  · rename_i t1 e1
    exact ⟨a0, c0, F, G, ρ, t, true, t1, R, e1, fun H1 G1 s k R1 => iteT ⟨a0, c0, F, G1, ρ, t1, fl, t', R1, ev, q.up s⟩⟩
  · rename_i t1 e1
    exact ⟨a0, c0, F, G, ρ, t, false, t1, R, e1, fun H1 G1 s k R1 => iteF ⟨a0, c0, F, G1, ρ, t1, fl, t', R1, ev, q.up s⟩⟩
  · cases ev
theorem s_ret {W : Nat} {e : E} {pe : Expr} {p : Pos} (h : PE X pe (tE call false e)) : PS X (.Return (some pe) p) (tS call W (.ret e)) := by
  refine PS.imp (ps_ret h) ?_
  rintro Dn σ H ⟨a0, c0, F, G, ρ, t, fl, t', R, ev, q⟩
  simp only [exec] at ev
  split at ev
  · rename_i d t1 e1
    cases ev
    exact ⟨a0, c0, F, G, ρ, t, d, _, R, e1, fun v H1 G1 s k R1 r => q v H1 G1 s R1.fh R1.gh R1.fg R1.st r⟩
  · cases ev
theorem s_brk {W : Nat} {p : Pos} : PS X (.Break p) (tS call W .brk) := by
  refine PS.imp ps_break ?_
  rintro Dn σ H ⟨a0, c0, F, G, ρ, t, fl, t', R, ev, q⟩
  cases ev
  exact q σ H G Sub.refl R
theorem s_cont {W : Nat} {p : Pos} : PS X (.Continue p) (tS call W .cont) := by
  refine PS.imp ps_continue ?_
  rintro Dn σ H ⟨a0, c0, F, G, ρ, t, fl, t', R, ev, q⟩
  cases ev
  exact q σ H G Sub.refl R
theorem s_bad {W : Nat} {st : Stmt} : PS X st (tS call W .bad) := by
  refine PS.imp ps_never ?_
  rintro Dn σ H ⟨a0, c0, F, G, ρ, t, fl, t', R, ev, q⟩
  cases ev
theorem s_while {W : Nat} {fz : List Nat} {c : E} {b : S} {pc : Expr} {xs : List Stmt} {p : Pos} (hp : PassesOwn (model X.prog X.w) X.A X.env X.xe) (hc : PT X pc (tT call c)) (hb : PSs X xs (tS call W b)) : PS X (.While pc xs [] p) (tS call W (.whileS fz c b)) := by
  refine PS.imp (ps_while hp hc hb) ?_
  rintro Dn σ H ⟨a0, c0, F, G, ρ, t, fl, t', R, ev, q⟩
  simp only [exec] at ev
  refine ⟨fun m σ H => ∃ G2 ρ2 t2, Sub G G2 ∧ RE a0 c0 F G2 ρ2 σ H t2 ∧ whileL (fun ρ t => tst (evE call c true ρ t)) (fun ρ t => exec call W b ρ t) fz m ρ2 t2 = some (fl, t'), ⟨W, G, ρ, t, Sub.refl, R, ev⟩, ?_⟩
  rintro m σ1 H1 ⟨G2, ρ2, t2, s2, R2, e2⟩
  cases m with
  | zero => cases e2
  | succ m =>
    unfold whileL at e2
    obtain ⟨G3, s3, R3⟩ := R2.frz fz
    split at e2
    · rename_i t3 e3
      refine ⟨a0, c0, F, G3, _, t2, true, t3, R3, e3, fun H4 G4 s4 k4 R4 => iteT ⟨fun σ H => ∃ G2 ρ2 t2, Sub G G2 ∧ RE a0 c0 F G2 ρ2 σ H t2 ∧ whileL (fun ρ t => tst (evE call c true ρ t)) (fun ρ t => exec call W b ρ t) fz m ρ2 t2 = some (fl, t'), fun σ' H' h => ⟨m, Nat.lt_succ_self m, h⟩, ?_⟩⟩
      have s5 : Sub G G4 := s2.trans (s3.trans s4)
      split at e2
      · rename_i ρ5 t5 e5
        exact ⟨a0, c0, F, G4, _, t3, _, t5, R4, e5, fun σ' H' G' s' R' => ⟨G', ρ5, t5, s5.trans s', R', e2⟩⟩
      · rename_i ρ5 t5 e5
        exact ⟨a0, c0, F, G4, _, t3, _, t5, R4, e5, fun σ' H' G' s' R' => ⟨G', ρ5, t5, s5.trans s', R', e2⟩⟩
      · rename_i ρ5 t5 e5
        cases e2
        exact ⟨a0, c0, F, G4, _, t3, _, _, R4, e5, fun σ' H' G' s' R' => q σ' H' G' (s5.trans s') R'⟩
      · rename_i d5 t5 e5
        cases e2
        exact ⟨a0, c0, F, G4, _, t3, _, _, R4, e5, fun v H' G' s' => q v H' G' (s5.trans s')⟩
      · cases e2
    · rename_i t3 e3
      cases e2
      exact ⟨a0, c0, F, G3, _, t2, false, _, R3, e3, fun H4 G4 s4 k4 R4 => iteF (q σ1 H4 G4 (s2.trans (s3.trans s4)) R4)⟩
    · cases e2
theorem s_for {W : Nat} {tg : T} {it : E} {b : S} {te i : Expr} {xs : List Stmt} {p : Pos} (hp : PassesOwn (model X.prog X.w) X.A X.env X.xe) (hc : X.calm = true) (hi : PI X te i (tI call false it)) (hg : PG X te (gT tg)) (hb : PSs X xs (tS call W b))
    (hs : ∀ x, foldedSetIterable i X.env x = pure x) : PS X (.For te i xs [] p) (tS call W (.forS tg it b)) := by
  refine PS.imp (ps_for hp hc hi hg hb hs) ?_
  rintro Dn σ H ⟨a0, c0, F, G, ρ, t, fl, t', R, ev, q⟩
  simp only [exec] at ev
  split at ev
  · rename_i x t1 e1
    split at ev
    · rename_i ds e2
      refine ⟨a0, c0, F, G, ρ, t, x, ds, t1, R, e1, e2, fun J st vs H1 G1 s1 k1 R1 wk std sp rep => ?_⟩
      have stand : ∀ {G2 H2 : Hp} {σ2 : L2.St} {ρ2 : EnvD} {t2 : DS}, Sub G1 G2 → RE a0 c0 F G2 ρ2 σ2 H2 t2 → Stand st H2 := fun {G2 H2 σ2 ρ2 t2} s R => by
        cases st with
        | none => trivial
        | some z => exact R.gh _ _ (s _ _ (sp.2.2 rfl))
      have hlen : vs.length = ds.length := rep.len
      refine ⟨fun i m σ H => m = vs.length - i ∧ i ≤ vs.length ∧ ∃ G2 ρ2 t2, Sub G1 G2 ∧ RE a0 c0 F G2 ρ2 σ H t2 ∧ forL (forF (fun ρ t => exec call W b ρ t) tg) (ds.drop i) ρ2 t2 = some (fl, t'),
        ⟨vs.length, by simp, Nat.zero_le _, G1, ρ, t1, Sub.refl, R1, by simpa using ev⟩, ?_⟩
      rintro i m σ3 H3 ⟨rfl, hi, G2, ρ2, t2, s2, R2, e4⟩
      by_cases hlt : i < vs.length
      · refine .inr ⟨wk.go i H3 hlt (stand s2 R2), fun σ H => ∃ G2 ρ2 t2, Sub G1 G2 ∧ RE a0 c0 F G2 ρ2 σ H t2 ∧ forL (forF (fun ρ t => exec call W b ρ t) tg) (ds.drop (i + 1)) ρ2 t2 = some (fl, t'),
          fun σ' H' h => ⟨vs.length - (i + 1), by omega, rfl, hlt, h⟩, fun y H' hy => ?_⟩
        obtain ⟨rfl, hv⟩ := wk.yld i H3 y H' hlt (stand s2 R2) hy
        have hid : i < ds.length := by omega
        obtain ⟨y', hy', rd⟩ := rep.get (i := i) (d := ds[i]) (by simp [hid])
        rw [hv] at hy'; cases hy'
        rw [List.drop_eq_getElem_cons hid] at e4
        unfold forL at e4
        have key : ∀ {flb : Fl} {t3 : DS}, forF (fun ρ t => exec call W b ρ t) tg ds[i] ρ2 t2 = some (flb, t3) → (∀ {G3 : Hp}, Sub G2 G3 → FlOk a0 c0 F G3 t3 { Dn with nx := fun σ H => ∃ G2 ρ2 t2, Sub G1 G2 ∧ RE a0 c0 F G2 ρ2 σ H t2 ∧ forL (forF (fun ρ t => exec call W b ρ t) tg) (ds.drop (i + 1)) ρ2 t2 = some (fl, t'), ct := fun σ H => ∃ G2 ρ2 t2, Sub G1 G2 ∧ RE a0 c0 F G2 ρ2 σ H t2 ∧ forL (forF (fun ρ t => exec call W b ρ t) tg) (ds.drop (i + 1)) ρ2 t2 = some (fl, t'), bk := Dn.nx } flb) →
            gT tg y σ3 H' fun σ2 H2 => tS call W b { Dn with nx := fun σ H => ∃ G2 ρ2 t2, Sub G1 G2 ∧ RE a0 c0 F G2 ρ2 σ H t2 ∧ forL (forF (fun ρ t => exec call W b ρ t) tg) (ds.drop (i + 1)) ρ2 t2 = some (fl, t'), ct := fun σ H => ∃ G2 ρ2 t2, Sub G1 G2 ∧ RE a0 c0 F G2 ρ2 σ H t2 ∧ forL (forF (fun ρ t => exec call W b ρ t) tg) (ds.drop (i + 1)) ρ2 t2 = some (fl, t'), bk := Dn.nx } σ2 H2 := fun {flb t3} ef hf => by
          unfold forF at ef
          split at ef
          · rename_i ρ3 ea
            exact ⟨a0, c0, F, G2, ρ2, t2, ds[i], ρ3, R2, Rep.mono s2 _ _ rd, ea, fun σ' R' _ => ⟨a0, c0, F, G2, ρ3, t2, flb, t3, R', ef, hf Sub.refl⟩⟩
          · cases ef
        split at e4
        · rename_i ρ5 t5 e5
          exact key e5 fun {G3} s3 σ' H' G' s' R' => ⟨G', ρ5, t5, s2.trans (s3.trans s'), R', e4⟩
        · rename_i ρ5 t5 e5
          exact key e5 fun {G3} s3 σ' H' G' s' R' => ⟨G', ρ5, t5, s2.trans (s3.trans s'), R', e4⟩
        · rename_i ρ5 t5 e5
          cases e4
          exact key e5 fun {G3} s3 σ' H' G' s' R' => q σ' H' G' (s1.trans (s2.trans (s3.trans s'))) R'
        · rename_i d5 t5 e5
          cases e4
          exact key e5 fun {G3} s3 v H' G' s' => q v H' G' (s1.trans (s2.trans (s3.trans s')))
        · cases e4
      · have : i = vs.length := by omega
        subst this
        refine .inl ⟨wk.stop H3 (stand s2 R2), ?_⟩
        rw [List.drop_of_length_le (by omega)] at e4
        unfold forL at e4
        cases e4
        exact q σ3 H3 G2 (s1.trans s2) R2
    · cases ev
  · cases ev
end
end Ev

/-! Ev10: lists changed, several stores at once. -/
namespace Ev
open PySem PySem.Spec PyProof.Rows L2
theorem extend_tup (l : Addr) (items : Array Value) (n : Nat) (b : Addr) (items2 : Array Value) (n2 : Nat) (dd : Option Addr) (sl : Array (Option Value)) (hs0 : ¬(!items.isEmpty && Builtin.List.listTooLong (items.size + items2.size)) = true) (hs1 : items.size ≤ sizeLine) (hs2 : items.size + items2.size ≤ sizeLine + 1) :
    Meets (Builtin.«list.extend» ⟨[.ref l, .ref b], []⟩) (fun _ R s => s.heap.get? l = some { cls := .type "list", dict := none, data := .seq items n, slots := #[] } ∧ s.heap.get? b = some { cls := .type "tuple", dict := dd, data := .seq items2 n2, slots := sl } ∧ R (.ok (.ret Value.none)) { s with heap := s.heap.update l (Obj.mapSeq fun x => x ++ items2), toks := s.toks }) :=
  .of_wp fun prog w A R s h => by
    obtain ⟨hp, g, d, tk, os⟩ := s; obtain ⟨hl, hb, h⟩ := h; have f1 := AutoSeq1.idx_int; have f2 := AutoSeq1.sub_tuple_tuple; have f3 := AutoSeq1.sub_list_list; have f4 := AutoSeq1.sub_tuple_list; have f5 := AutoSeq1.sub_list_tuple
    have hz' : (items ++ items2).size ≤ sizeLine + 1 := by rw [Array.size_append]; exact hs2
    wp_walk using (wpAny_updateSeq hl rfl (hz := hs1) (_hz' := hz')), wpAny_loadPart' hl, wpAny_loadPart' hb; exact ⟨_, rfl, h⟩
section
variable {call : Nat → List D → DS → R D} {gi : List (Str × Int)} {fns : List Str} {k : Nat} {X : Cx} {a0 c0 : Addr} {F G G' H H' : Hp} {ρ ρ' : EnvD} {σ σ' : L2.St} {t t' : DS}
/-! ### methods of lists -/
/-- xs.extend(t), t a tuple -/
def rExtT : V → List V → Hp → VK → Prop := fun x vs H Q => ∃ l b xs zs, x = .ref l ∧ vs = [.ref b] ∧ H l = some (.lst xs) ∧ H b = some (.tup zs) ∧ xs.length + zs.length ≤ sizeLine ∧ Q .non (upd H l (.lst (xs ++ zs)))
theorem mt_extT : MtR X "list.extend" rExtT := by
  intro pins s σ H x vs v us Q I rx rv h
  obtain ⟨l, b, xs, zs, rfl, rfl, hH, hB, hz, q⟩ := h
  cases rx
  obtain ⟨u, rfl, ru⟩ := rv.one
  cases ru
  obtain ⟨z, its, n, r, hl, e⟩ := I.lstM hH
  obtain ⟨its2, r2, ht2, hz2⟩ := I.tuple (SqT.of hB)
  obtain ⟨⟨oc, od, dt, sl⟩, eo, hc, n2, hd⟩ := ht2
  simp only at hc hd
  subst hc hd
  have hl2 := r2.length
  have hsz : its.toArray.size + its2.toArray.size ≤ sizeLine := by rw [List.size_toArray, List.size_toArray]; omega
  have hlong : ¬ (!its.toArray.isEmpty && Builtin.List.listTooLong (its.toArray.size + its2.toArray.size)) = true := by
    rw [notLongL hsz, Bool.and_false]
    exact Bool.false_ne_true
  refine call_meets F.slot_list_extend ⟨_, e, rfl⟩ F.entry_list_extend (F.args_list_extend_2 _ _)
    (extend_tup l its.toArray n b its2.toArray n2 od sl hlong (by rw [List.size_toArray]; omega) (by omega)) ⟨e, eo, ?_⟩
  refine ⟨.non, _, I.lset (its' := its ++ its2) hH e (by simp) (r.append r2) ?_, rfl, q⟩
  rw [List.length_append]
  omega
/-- a method's call as a statement, one argument -/
theorem ps_m1 {name : Str} {id : String} {r : V → List V → Hp → VK → Prop} {x : Str} {i : Nat} {y : Expr} {ty : TE} {p ap cp p2 : Pos} (slot : Slot "list" name id) (hty : typeOf (.builtin id) = pure (.type "method_descriptor")) (hm : MtR X id r)
    (hN : X.N[i]? = some x) (hv : visB X.env.scope x = true) (hy : plainX y = true) (h : PE X y ty) (hl : (ap.endLine == cp.line) = true) : PS X (.Expr (.Call (.Attribute (.Name x p) name ap) [y] [] cp) p2) (tDrop (tBM X.K "list" r (tVar i) (tCons ty tNil))) := by
  obtain ⟨h1, h2, h3⟩ := vis_ok hv
  refine ps_expr (pe_bm PySem.F.plainAttrs_list slot hty hm (pe_var hN h1 h2 h3) (pa_cons h pa_nil (star_ok hy)) rfl ?_ hl (star_ok hy) ?_) rfl
  · rw [star1 hy]; rfl
  · rw [star_nil]; rfl
theorem ps_m2 {name : Str} {id : String} {r : V → List V → Hp → VK → Prop} {x : Str} {i : Nat} {y z : Expr} {ty tz : TE} {p ap cp p2 : Pos} (slot : Slot "list" name id) (hty : typeOf (.builtin id) = pure (.type "method_descriptor")) (hm : MtR X id r)
    (hN : X.N[i]? = some x) (hv : visB X.env.scope x = true) (hy : plainX y = true) (hz : plainX z = true) (h : PE X y ty) (h' : PE X z tz) (hl : (ap.endLine == cp.line) = true) : PS X (.Expr (.Call (.Attribute (.Name x p) name ap) [y, z] [] cp) p2) (tDrop (tBM X.K "list" r (tVar i) (tCons ty (tCons tz tNil)))) := by
  obtain ⟨h1, h2, h3⟩ := vis_ok hv
  refine ps_expr (pe_bm PySem.F.plainAttrs_list slot hty hm (pe_var hN h1 h2 h3) (pa_cons h (pa_cons h' pa_nil (star_ok hz)) (star_ok hy)) rfl ?_ hl (star_ok hy) ?_) rfl
  · rw [star2 hy hz]; rfl
  · rw [star1 hz]; rfl
theorem own_ok {i : Nat} {ds : List D} (h : ownOf ρ i = some ds) : ρ[i]? = some (some (Sl.own ds)) := by
  unfold ownOf at h
  split at h
  · rename_i e; cases h; exact e
  · cases h
theorem s_app {W i : Nat} {e : E} {x : Str} {y : Expr} {p ap cp p2 : Pos} (hN : X.N[i]? = some x) (hv : visB X.env.scope x = true) (hy : plainX y = true) (h : PE X y (tE call false e)) (hl : (ap.endLine == cp.line) = true) :
    PS X (.Expr (.Call (.Attribute (.Name x p) "append" ap) [y] [] cp) p2) (tS call W (.app i e)) := by
  refine PS.imp (ps_m1 PySem.F.slot_list_append PySem.F.type_list_append mt_append hN hv hy h hl) ?_
  rintro Dn σ H ⟨a0, c0, F, G, ρ, t, fl, t', R, ev, q⟩
  simp only [exec] at ev
  split at ev
  · rename_i ds e0
    have eo := own_ok e0
    obtain ⟨a, vs, g1, g2, g3, g4, g5, g6, g7⟩ := R.ow i ds eo
    split at ev
    · rename_i d t1 e1
      split at ev
      · rename_i hz
        cases ev
        refine ⟨_, g1, .inl ⟨rfl, vs, SqL.of g2⟩, a0, c0, F, G, ρ, t, d, _, R, e1, fun v H1 G1 s1 k1 R1 r1 => ?_⟩
        refine ⟨a, vs, v, rfl, rfl, k1 _ _ g2 g5 g6, by rw [g7.len, sizeLine_eq]; exact hz, ?_⟩
        exact q _ _ G1 s1 (R1.updO eo g1 ((Reps.mono s1 _ _ g7).append (.cons r1 .nil)))
      · cases ev
    · cases ev
  · cases ev
theorem s_ext {W i : Nat} {e : E} {x : Str} {y : Expr} {p ap cp p2 : Pos} (hN : X.N[i]? = some x) (hv : visB X.env.scope x = true) (hy : plainX y = true) (h : PE X y (tE call true e)) (hl : (ap.endLine == cp.line) = true) :
    PS X (.Expr (.Call (.Attribute (.Name x p) "extend" ap) [y] [] cp) p2) (tS call W (.ext i e)) := by
  have mm : MtR X "list.extend" (fun x vs H Q => rExtend x vs H Q ∨ rExtT x vs H Q) := MtR.or mt_extend mt_extT
  refine PS.imp (ps_m1 PySem.F.slot_list_extend PySem.F.type_list_extend mm hN hv hy h hl) ?_
  rintro Dn σ H ⟨a0, c0, F, G, ρ, t, fl, t', R, ev, q⟩
  simp only [exec] at ev
  split at ev
  · rename_i ds e0
    have eo := own_ok e0
    obtain ⟨a, vs, g1, g2, g3, g4, g5, g6, g7⟩ := R.ow i ds eo
    split at ev
    · rename_i d t1 e1
      split at ev
      · rename_i es e2
        split at ev
        · rename_i hz
          cases ev
          refine ⟨_, g1, .inl ⟨rfl, vs, SqL.of g2⟩, op1 R e1 fun v H1 G1 s1 k1 R1 r1 => ?_⟩
          have hq : ∀ us, Reps a0 G1 es us → Dn.nx σ (upd H1 a (.lst (vs ++ us))) := fun us ru => q _ _ G1 s1 (R1.updO eo g1 ((Reps.mono s1 _ _ g7).append ru))
          have hlen : ∀ {us : List V}, us.length = es.length → vs.length + us.length ≤ sizeLine := fun {us} h => by rw [g7.len, h, sizeLine_eq]; exact hz
          cases d with
          | tup xs =>
            cases e2
            obtain ⟨b, us, rfl, gb, rb⟩ := r1.tup.tupV
            exact .inr ⟨a, b, vs, us, rfl, rfl, k1 _ _ g2 g5 g6, R1.gh _ _ gb, hlen rb.len, hq us rb⟩
          | lst xs =>
            cases e2
            obtain ⟨b, us, rfl, gb, rb⟩ := r1.lst R1.gh
            exact .inl ⟨a, b, vs, us, rfl, rfl, k1 _ _ g2 g5 g6, gb, hlen rb.len, hq us rb⟩
          | _ => cases e2
        · cases ev
      · cases ev
    · cases ev
  · cases ev
theorem s_ins {W i : Nat} {k e : E} {x : Str} {y z : Expr} {p ap cp p2 : Pos} (hN : X.N[i]? = some x) (hv : visB X.env.scope x = true) (hy : plainX y = true) (hz : plainX z = true) (h : PE X y (tE call true k)) (h' : PE X z (tE call false e)) (hl : (ap.endLine == cp.line) = true) :
    PS X (.Expr (.Call (.Attribute (.Name x p) "insert" ap) [y, z] [] cp) p2) (tS call W (.ins i k e)) := by
  refine PS.imp (ps_m2 PySem.F.slot_list_insert PySem.F.type_list_insert mt_insert hN hv hy hz h h' hl) ?_
  rintro Dn σ H ⟨a0, c0, F, G, ρ, t, fl, t', R, ev, q⟩
  simp only [exec] at ev
  split at ev
  · rename_i ds e0
    have eo := own_ok e0
    obtain ⟨a, vs, g1, g2, g3, g4, g5, g6, g7⟩ := R.ow i ds eo
    split at ev
    · rename_i kk t1 e1
      split at ev
      · rename_i d t2 e2
        split at ev
        · rename_i hz
          cases ev
          refine ⟨_, g1, .inl ⟨rfl, vs, SqL.of g2⟩, op1 R e1 fun v H1 G1 s1 k1 R1 r1 => ⟨a0, c0, F, G1, ρ, t1, d, _, R1, e2, fun w H2 G2 s2 k2 R2 r2 => ?_⟩⟩
          refine ⟨a, vs, kk, w, rfl, by rw [r1.int], (k1.trans k2) _ _ g2 g5 g6, by rw [g7.len, sizeLine_eq]; exact hz.1, hz.2.1, hz.2.2, ?_⟩
          have g8 := Reps.mono (s1.trans s2) _ _ g7
          exact q _ _ G2 (s1.trans s2) (R2.updO eo g1 (((g8.take _).append (.cons r2 .nil)).append (g8.drop _)))
        · cases ev
      · cases ev
    · cases ev
  · cases ev
theorem s_setix {W i : Nat} {ix e : E} {x : Str} {y pe : Expr} {p p2 p3 : Pos} (hN : X.N[i]? = some x) (hv : visB X.env.scope x = true) (hy : plainX y = true) (h : PE X pe (tE call false e)) (h' : PE X y (tE call true ix)) (hpe : swapsWithSole [.Subscript (.Name x p) y p2] pe p3.line X.env = pure false) (hw : swappedStores [.Subscript (.Name x p) y p2] pe X.env = pure none) :
    PS X (.Assign [.Subscript (.Name x p) y p2] pe p3) (tS call W (.setix i ix e)) := by
  obtain ⟨h1, h2, h3⟩ := vis_ok hv
  have hpg := pg_sub (pos := p2) (pe_var (pos := p) hN h1 h2 h3) h' set_list (by intro v; cases y <;> first | rfl | cases hy)
  refine PS.imp (ps_asg h hpg hpe hw rfl) ?_
  rintro Dn σ H ⟨a0, c0, F, G, ρ, t, fl, t', R, ev, q⟩
  simp only [exec] at ev
  split at ev
  · rename_i d t1 e1
    split at ev
    · rename_i ds e0
      have eo := own_ok e0
      obtain ⟨a, vs, g1, g2, g3, g4, g5, g6, g7⟩ := R.ow i ds eo
      split at ev
      · rename_i kk t2 e2
        split at ev
        · rename_i j e3
          cases ev
          refine ⟨a0, c0, F, G, ρ, t, d, t1, R, e1, fun v H1 G1 s1 k1 R1 r1 => ⟨_, g1, op1 R1 e2 fun w H2 G2 s2 k2 R2 r2 => ?_⟩⟩
          refine ⟨a, vs, kk, j, rfl, r2.int, (k1.trans k2) _ _ g2 g5 g6, by rw [g7.len]; exact e3, ?_⟩
          exact q _ _ G2 (s1.trans s2) (R2.updO eo g1 ((Reps.mono (s1.trans s2) _ _ g7).set (Rep.mono s2 _ _ r1) j))
        · cases ev
      · cases ev
    · cases ev
  · cases ev
/-! ### several stores -/
/-- values for several slots, new lists apart from one another -/
def NsOk (a0 c0 : Addr) (F G : Hp) (ρ : EnvD) (σ : L2.St) (H : Hp) : List Sl → List V → Prop
  | [], vs => vs = []
  | .val d :: r, vs => ∃ v w, vs = v :: w ∧ Rep a0 G d v ∧ NsOk a0 c0 F G ρ σ H r w
  | .own ds :: r, vs => ∃ a w us, vs = V.ref a :: w ∧ H a = some (.lst us) ∧ F a = none ∧ G a = none ∧ a ≠ a0 ∧ a ≠ c0 ∧ (∀ (i : Nat) (es : List D), ρ[i]? = some (some (Sl.own es)) → σ[i]? ≠ some (some (V.ref a))) ∧ Reps a0 G ds us ∧
      NsOk a0 c0 (upd F a (.lst us)) G ρ σ H r w
theorem NsOk.unF {p : Addr} {o : HO} : ∀ {ss : List Sl} {vs : List V} {F : Hp}, NsOk a0 c0 (upd F p o) G ρ σ H ss vs → F p = none → NsOk a0 c0 F G ρ σ H ss vs
  | [], _, _, h, _ => h
  | .val d :: r, _, _, ⟨v, w, e, h1, h2⟩, n => ⟨v, w, e, h1, h2.unF n⟩
  | .own ds :: r, _, F, ⟨a, w, us, e, h1, h2, h3, h4, h5, h6, h7, h8⟩, n => by
    have hne : a ≠ p := by rintro rfl; rw [upd_same] at h2; cases h2
    refine ⟨a, w, us, e, h1, by rw [upd_ne hne] at h2; exact h2, h3, h4, h5, h6, h7, ?_⟩
    have e2 : upd (upd F p o) a (.lst us) = upd (upd F a (.lst us)) p o := by
      funext b
      unfold upd
      by_cases b1 : b = a
      · subst b1; rw [if_pos rfl, if_neg hne, if_pos rfl]
      · by_cases b2 : b = p
        · subst b2; rw [if_neg b1, if_pos rfl, if_pos rfl]
        · rw [if_neg b1, if_neg b2, if_neg b2, if_neg b1]
    rw [e2] at h8
    exact h8.unF (by rw [upd_ne (Ne.symm hne)]; exact n)
/-- a new list is kept apart -/
theorem RE.hide {a : Addr} {us : List V} (R : RE a0 c0 F G ρ σ H t) (h : H a = some (.lst us)) (g : G a = none) (n0 : a ≠ a0) (nc : a ≠ c0) (no : ∀ (i : Nat) (es : List D), ρ[i]? = some (some (Sl.own es)) → σ[i]? ≠ some (some (V.ref a))) : RE a0 c0 (upd F a (.lst us)) G ρ σ H t := by
  refine ⟨fun b u q => ?_, R.gh, fun b u q => ?_, ⟨R.st.h0, R.st.hc, ?_, ?_, R.st.g0, R.st.gc⟩, R.sh, fun i ds e => ?_, R.inj, R.len⟩
  · by_cases hb : b = a
    · subst hb; rw [upd_same] at q; cases q; exact h
    · rw [upd_ne hb] at q; exact R.fh b u q
  · by_cases hb : b = a
    · subst hb; exact g
    · rw [upd_ne hb] at q; exact R.fg b u q
  · rw [upd_ne (Ne.symm n0)]; exact R.st.f0
  · rw [upd_ne (Ne.symm nc)]; exact R.st.fc
  · obtain ⟨b, ws, g1, g2, g3, g4⟩ := R.ow i ds e
    have hne : b ≠ a := by rintro rfl; exact no i ds e g1
    exact ⟨b, ws, g1, g2, by rw [upd_ne hne]; exact g3, g4⟩
theorem RE.show {a : Addr} {o : HO} (R : RE a0 c0 (upd F a o) G ρ σ H t) (f : F a = none) : RE a0 c0 F G ρ σ H t := by
  have s : Sub F (upd F a o) := Sub.upd f
  have nn : ∀ {b : Addr}, upd F a o b = none → F b = none := fun {b} h => by
    by_cases hb : b = a
    · subst hb; exact f
    · rw [upd_ne hb] at h; exact h
  refine ⟨s.trans R.fh, R.gh, fun b u q => R.fg b u (s b u q), ⟨R.st.h0, R.st.hc, nn R.st.f0, nn R.st.fc, R.st.g0, R.st.gc⟩, R.sh, fun i ds e => ?_, R.inj, R.len⟩
  obtain ⟨b, ws, g1, g2, g3, g4⟩ := R.ow i ds e
  exact ⟨b, ws, g1, g2, nn g3, g4⟩
def tNs (call : Nat → List D → DS → R D) (es : E) : TA := fun σ H Q => ∃ a0 c0 F G ρ t ss t', RE a0 c0 F G ρ σ H t ∧ evNs call es ρ t = some (ss, t') ∧
  Post a0 c0 F G ρ σ H t' (fun G' H' vs => NsOk a0 c0 F G' ρ σ H' ss vs) Q
theorem ns_nil : PA X [] (tNs call .nil) := by
  refine PA.imp pa_nil ?_
  rintro σ H Q ⟨a0, c0, F, G, ρ, t, ds, t', R, ev, q⟩
  simp only [evNs] at ev
  cases ev
  exact q [] H G Sub.refl Keep.refl R rfl
theorem ns_cons {e es : E} {x : Expr} {xs : List Expr} (hp : plainX x = true) (h : PE X x (tN call e)) (h2 : PA X xs (tNs call es)) : PA X (x :: xs) (tNs call (.cons e es)) := by
  refine PA.imp (pa_cons h h2 (star_ok hp)) ?_
  rintro σ H Q ⟨a0, c0, F, G, ρ, t, ds, t', R, ev, q⟩
  simp only [evNs] at ev
  split at ev
  · rename_i d t1 e1
    split at ev
    · rename_i ss t2 e2
      cases ev
      refine ⟨a0, c0, F, G, ρ, t, d, t1, R, e1, fun v H1 G1 s1 k1 R1 r1 => ?_⟩
      by_cases hb : e.isNew = true ∧ ∃ l, d = .lst l
      · obtain ⟨hn, l, rfl⟩ := hb
        rw [hn] at r1 q
        obtain ⟨a, us, rfl, g1, g2, g3, g4, g5, g6, g7⟩ := (show Fr a0 c0 F G1 ρ σ H1 l v from r1).ex
        refine ⟨a0, c0, upd F a (.lst us), G1, ρ, t1, ss, _, R1.hide g1 g3 g4 g5 g6, e2, fun vs H2 G2 s2 k2 R2 r2 => ?_⟩
        exact q (V.ref a :: vs) H2 G2 (s1.trans s2) (k1.trans k2) (R2.show g2) ⟨a, vs, us, rfl, R2.fh _ _ upd_same, g2, R2.fg _ _ upd_same, g4, g5, g6, Reps.mono s2 _ _ g7, r2⟩
      · have rr : Rep a0 G1 d v := by
          by_cases hn : e.isNew = true
          · exact r1.rep fun l hl => hb ⟨hn, l, hl⟩
          · unfold ResN at r1; rw [if_neg hn] at r1; exact r1
        have es : mkSl e.isNew d = .val d := by
          cases hn : e.isNew with
          | false => rfl
          | true => cases d with
            | lst l => exact absurd ⟨hn, l, rfl⟩ hb
            | _ => rfl
        rw [es] at q
        exact ⟨a0, c0, F, G1, ρ, t1, ss, _, R1, e2, fun vs H2 G2 s2 k2 R2 r2 => q (v :: vs) H2 G2 (s1.trans s2) (k1.trans k2) R2 ⟨v, vs, rfl, Rep.mono s2 _ _ rr, r2⟩⟩
    · cases ev
  · cases ev
/-- the slots in order -/
def setV : List Nat → List V → L2.St → L2.St
  | i :: is, v :: vs, σ => setV is vs (σ.set i (some v))
  | _, _, σ => σ
theorem set_ns : ∀ {is : List Nat} {ss : List Sl} {vs : List V} {ρ ρ' : EnvD} {σ : L2.St}, RE a0 c0 F G ρ σ H t → NsOk a0 c0 F G ρ σ H ss vs → setN is ss ρ = some ρ' → RE a0 c0 F G ρ' (setV is vs σ) H t ∧ vs.length = is.length
  | [], [], vs, _, _, _, R, h, e => by cases e; obtain rfl : vs = [] := h; exact ⟨R, rfl⟩
  | [], _ :: _, _, _, _, _, _, _, e => by cases e
  | _ :: _, [], _, _, _, _, _, _, e => by cases e
  | i :: is, .val d :: ss, _, ρ, ρ', σ, R, ⟨v, w, e1, h1, h2⟩, e => by
    subst e1
    have mono : ∀ {ss : List Sl} {vs : List V} {F : Hp}, NsOk a0 c0 F G ρ σ H ss vs → NsOk a0 c0 F G (ρ.set i (some (.val d))) (σ.set i (some v)) H ss vs := by
      intro ss
      induction ss with
      | nil => intro vs F h; exact h
      | cons s ss ih =>
        intro vs F h
        cases s with
        | val d' => obtain ⟨v', w', q1, q2, q3⟩ := h; exact ⟨v', w', q1, q2, ih q3⟩
        | own ds =>
          obtain ⟨a, w', us, q1, q2, q3, q4, q5, q6, q7, q8, q9⟩ := h
          refine ⟨a, w', us, q1, q2, q3, q4, q5, q6, fun j es z1 z2 => ?_, q8, ih q9⟩
          by_cases hj : i = j
          · subst hj
            by_cases hl : i < ρ.length
            · rw [List.getElem?_set_self hl] at z1; cases z1
            · rw [List.getElem?_eq_none (by simpa using hl)] at z1; cases z1
          · rw [List.getElem?_set_ne hj] at z1 z2
            exact q7 j es z1 z2
    obtain ⟨R', hl⟩ := set_ns (is := is) (R.setV h1) (mono h2) e
    exact ⟨R', by simp [hl]⟩
  | i :: is, .own ds :: ss, _, ρ, ρ', σ, R, ⟨a, w, us, e1, h1, h2, h3, h4, h5, h6, h7, h8⟩, e => by
    subst e1
    have mono : ∀ {ss : List Sl} {vs : List V} {F' : Hp}, (∃ o, F' a = some o) → NsOk a0 c0 F' G ρ σ H ss vs → NsOk a0 c0 F' G (ρ.set i (some (.own ds))) (σ.set i (some (V.ref a))) H ss vs := by
      intro ss
      induction ss with
      | nil => intro vs F hF h; exact h
      | cons s ss ih =>
        intro vs F hF h
        cases s with
        | val d' => obtain ⟨v', w', q1, q2, q3⟩ := h; exact ⟨v', w', q1, q2, ih hF q3⟩
        | own ds' =>
          obtain ⟨b, w', us', q1, q2, q3, q4, q5, q6, q7, q8, q9⟩ := h
          obtain ⟨o, ho⟩ := hF
          have hne : b ≠ a := by rintro rfl; rw [ho] at q3; cases q3
          refine ⟨b, w', us', q1, q2, q3, q4, q5, q6, fun j es z1 z2 => ?_, q8, ih ⟨o, by rw [upd_ne (Ne.symm hne)]; exact ho⟩ q9⟩
          by_cases hj : i = j
          · subst hj
            by_cases hl : i < σ.length
            · rw [List.getElem?_set_self hl] at z2; cases z2; exact hne rfl
            · rw [List.getElem?_eq_none (by simpa using hl)] at z2; cases z2
          · rw [List.getElem?_set_ne hj] at z1 z2
            exact q7 j es z1 z2
    obtain ⟨R', hl⟩ := set_ns (is := is) (R.setO ⟨⟨a, us, rfl, h1, h2, h3, h4, h5, h6, h7⟩⟩) ((mono ⟨_, upd_same⟩ h8).unF h2) e
    exact ⟨R', by simp [hl]⟩
theorem par_key {W : Nat} {is : List Nat} {es : E} {Dn : Ends} (hq : tS call W (.par is es) Dn σ H) : tNs call es σ H fun vs H1 => vs.length = is.length ∧ Dn.nx (setV is vs σ) H1 := by
  obtain ⟨a0, c0, F, G, ρ, t, fl, t', R, ev, q⟩ := hq
  simp only [exec] at ev
  split at ev
  · rename_i ss t1 e1
    split at ev
    · rename_i ρ' e2
      cases ev
      refine ⟨a0, c0, F, G, ρ, t, ss, _, R, e1, fun vs H1 G1 s1 k1 R1 r1 => ?_⟩
      obtain ⟨R2, hl⟩ := set_ns R1 r1 e2
      exact ⟨hl, q _ H1 G1 s1 R2⟩
    · cases ev
  · cases ev
theorem s_par2 {W i j : Nat} {es : E} {x y : Str} {a b : Expr} {px py pt p2 pos : Pos} {kt k2 : Nat} (hc : X.calm = true) (nd : X.N.Nodup) (hk : X.env.scope.kind = .function) (hi : X.N[i]? = some x) (hj : X.N[j]? = some y) (hij : i ≠ j)
    (hx : X.env.scope.names.lookup x = some .local) (hy : X.env.scope.names.lookup y = some .local) (hl : (py.line == px.line) = true) (hxy : x ≠ y) (pa : plainX a = true) (pb : plainX b = true) (hf : [a, b].all (foldedForSure 8) = false) (hcc : [a, b].all (constantsAlone 8) = false)
    (h : PA X [a, b] (tNs call es)) : PS X (.Assign [.Tuple [.Name x px, .Name y py] kt pt] (.Tuple [a, b] k2 p2) pos) (tS call W (.par [i, j] es)) := by
  refine PS.imp (ps_par hc nd hi hj hij hx hy h (sw2 hk hx hy hl hxy pa pb hf hcc) rfl) ?_
  intro Dn σ H hq
  obtain ⟨a0, c0, F, G, ρ, t, ss, t', R, ev, q⟩ := par_key hq
  refine ⟨a0, c0, F, G, ρ, t, ss, t', R, ev, fun vs H1 G1 s1 k1 R1 r1 => ?_⟩
  obtain ⟨hlen, hn⟩ := q vs H1 G1 s1 k1 R1 r1
  match vs, hlen, hn with
  | [v, w], _, hn => exact ⟨v, w, rfl, hn⟩
theorem s_par3 {W i j l : Nat} {es : E} {x y z : Str} {a b c : Expr} {px py pz pt p2 pos : Pos} {kt k2 : Nat} (hc : X.calm = true) (nd : X.N.Nodup) (hk : X.env.scope.kind = .function) (hi : X.N[i]? = some x) (hj : X.N[j]? = some y) (hl : X.N[l]? = some z) (hij : i ≠ j) (hil : i ≠ l) (hjl : j ≠ l)
    (hx : X.env.scope.names.lookup x = some .local) (hy : X.env.scope.names.lookup y = some .local) (hz : X.env.scope.names.lookup z = some .local) (hl1 : (py.line == px.line) = true) (hl2 : (pz.line == px.line) = true) (hxy : x ≠ y) (hxz : x ≠ z) (hyz : y ≠ z)
    (pa : plainX a = true) (pb : plainX b = true) (pc : plainX c = true) (hf : [a, b, c].all (foldedForSure 8) = false) (hcc : [a, b, c].all (constantsAlone 8) = false)
    (h : PA X [a, b, c] (tNs call es)) : PS X (.Assign [.Tuple [.Name x px, .Name y py, .Name z pz] kt pt] (.Tuple [a, b, c] k2 p2) pos) (tS call W (.par [i, j, l] es)) := by
  refine PS.imp (ps_par3 hc nd hi hj hl hij hil hjl hx hy hz h (sw3 hk hx hy hz hl1 hl2 hxy hxz hyz pa pb pc hf hcc) rfl) ?_
  intro Dn σ H hq
  obtain ⟨a0, c0, F, G, ρ, t, ss, t', R, ev, q⟩ := par_key hq
  refine ⟨a0, c0, F, G, ρ, t, ss, t', R, ev, fun vs H1 G1 s1 k1 R1 r1 => ?_⟩
  obtain ⟨hlen, hn⟩ := q vs H1 G1 s1 k1 R1 r1
  match vs, hlen, hn with
  | [u, v, w], _, hn => exact ⟨u, v, w, rfl, hn⟩
theorem nsOk_up {G0 : Hp} {ρ0 : EnvD} {σ0 : L2.St} {H0 H1 : Hp} (k : Sub H0 H1) : ∀ (ss : List Sl) (vs : List V) (F0 : Hp), NsOk a0 c0 F0 G0 ρ0 σ0 H0 ss vs → NsOk a0 c0 F0 G0 ρ0 σ0 H1 ss vs
  | [], _, _, h => h
  | .val d :: ss, _, F0, ⟨v, w, q1, q2, q3⟩ => ⟨v, w, q1, q2, nsOk_up k ss w F0 q3⟩
  | .own ds :: ss, _, F0, ⟨a, w, us, q1, q2, q3, q4, q5, q6, q7, q8, q9⟩ => ⟨a, w, us, q1, k _ _ q2, q3, q4, q5, q6, q7, q8, nsOk_up k ss w _ q9⟩
theorem par_keyT {W : Nat} {is : List Nat} {es : E} {Dn : Ends} (hq : tS call W (.par is es) Dn σ H) : tNs call es σ H fun vs H1 => vs.length = is.length ∧ ∀ p, H1 p = none → Dn.nx (setV is vs σ) (upd H1 p (.tup vs)) := by
  obtain ⟨a0, c0, F, G, ρ, t, fl, t', R, ev, q⟩ := hq
  simp only [exec] at ev
  split at ev
  · rename_i ss t1 e1
    split at ev
    · rename_i ρ' e2
      cases ev
      refine ⟨a0, c0, F, G, ρ, t, ss, _, R, e1, fun vs H1 G1 s1 k1 R1 r1 => ?_⟩
      obtain ⟨_, hl⟩ := set_ns R1 r1 e2
      refine ⟨hl, fun p n => ?_⟩
      obtain ⟨R2, _⟩ := set_ns (R1.newP n) (nsOk_up (Sub.upd n) _ _ _ r1) e2
      exact q _ _ G1 s1 R2
    · cases ev
  · cases ev
theorem g_raw (nd : X.N.Nodup) {is : List Nat} {es : List Expr} (h : Nms X is es) : PGs X es (fun vs σ H Q => vs.length = is.length ∧ Q (setV is vs σ) H) := by
  induction h with
  | nil =>
    refine PGs.imp pgs_nil ?_
    rintro vs σ H Q ⟨hl, q⟩
    match vs, hl, q with
    | [], _, q => exact ⟨rfl, q⟩
  | @cons i x pos is es hi hx hh ih =>
    refine PGs.imp (pgs_cons (pg_name nd hi (hx.imp id (·.1)) (hx.symm.imp (·.2) id)) ih rfl) ?_
    rintro vs σ H Q ⟨hl, q⟩
    match vs, hl, q with
    | v :: r, hl, q => exact ⟨v, r, rfl, by simpa using hl, q⟩
theorem s_parT {W : Nat} {is : List Nat} {es : E} {ts xs : List Expr} {pt p2 pos : Pos} {kt k2 : Nat} (hc : X.calm = true) (nd : X.N.Nodup) (hm : Nms X is ts) (hl : is.length ≤ 3) (hw : tupleB X.env.scope ts xs = true)
    (h : PA X xs (tNs call es)) : PS X (.Assign [.Tuple ts kt pt] (.Tuple xs k2 p2) pos) (tS call W (.par is es)) := by
  have hl2 := hm.len
  refine PS.imp (ps_asg (pe_tup h) (pg_tup (n := is.length) hc (g_raw nd hm) hl2.1 hl2.2) rfl (sw_none hw) rfl) ?_
  intro Dn σ H hq
  obtain ⟨a0, c0, F, G, ρ, t, ss, t', R, ev, q⟩ := par_keyT hq
  refine ⟨a0, c0, F, G, ρ, t, ss, t', R, ev, fun vs H1 G1 s1 k1 R1 r1 => ?_⟩
  obtain ⟨hlen, hn⟩ := q vs H1 G1 s1 k1 R1 r1
  refine ⟨by rw [hlen]; exact Nat.le_trans hl (by decide), fun p n => ⟨p, vs, rfl, SqT.of upd_same, hlen, hlen, hn p n⟩⟩
end
end Ev

/-! Ev11: every statement that the check passes. -/
namespace Ev
open PySem PySem.Spec PyProof.Rows L2
section
variable {call : Nat → List D → DS → R D} {gi : List (Str × Int)} {fns : List Str} {k : Nat} {X : Cx} {a0 c0 : Addr} {F G G' H H' : Hp} {ρ ρ' : EnvD} {σ σ' : L2.St} {t t' : DS}
theorem sto_ok (hf : ∀ x, X.fn x = true) {x : Str} (h : (isK X.env.scope x .local || isK X.env.scope x .cell) = true) : Sto X x := by
  rcases Bool.or_eq_true_iff.mp h with h | h
  · exact .inl (isK_ok h)
  · exact .inr ⟨isK_ok h, hf x⟩
theorem nms_ok (hf : ∀ x, X.fn x = true) : ∀ (is : List Nat) (es : List Expr), chkNms X.N X.env.scope is es = true → Nms X is es := by
  intro is
  induction is with
  | nil => intro es h; cases es with
    | nil => exact .nil
    | cons => cases h
  | cons i is ih => intro es h; cases es with
    | nil => cases h
    | cons y es =>
      cases y with
      | Name x p =>
        simp only [chkNms, Bool.and_eq_true, decide_eq_true_eq] at h
        exact .cons h.1 (sto_ok hf h.2.1) (ih es h.2.2)
      | _ => cases h
theorem gT_ok (O : Ok call gi fns k X) (hf : ∀ x, X.fn x = true) {tg : T} {te : Expr} (h : chkT X.N X.env.scope tg te = true) : PG X te (gT tg) := by
  unfold chkT at h
  split at h
  · simp only [Bool.and_eq_true, decide_eq_true_eq] at h
    exact g_nm O.nd h.1 (sto_ok hf h.2)
  · exact g_tp O.calm O.nd (nms_ok hf _ _ h)
  · cases h
theorem sndG (O : Ok call gi fns k X) {e : E} {pe : Expr} (h : Chk gi fns X.N X.env.scope false pe e) (hn : e.isNew = true) : PE X pe (tG call e) := by
  cases h with
  | lst h1 => exact g_lst ((snd _ X O).list h1 false)
  | bin h1 h2 => exact g_bin ((snd _ X O).pe h1 true) ((snd _ X O).pe h2 true)
  | blt h1 h2 => exact g_blt O h1 h2 ((snd _ X O).list h2 true)
  | sl h1 h2 h3 => exact g_sl ((snd _ X O).pe h1 true) (g_opt (snd _ X O) h2) (g_opt (snd _ X O) h3)
  | rev h1 => exact g_rev ((snd _ X O).pe h1 true)
  | comp h1 h2 h3 hi hc he =>
    obtain ⟨ok, pi, pg, pt, pe', hs⟩ := g_comp O h1 h2 h3 hi hc he (snd _) (snd _) (snd _)
    exact PE.imp (pe_lc O.calm O.nd pi ok pg pt pe' hs) (g_comp_imp h3)
  | _ => cases hn
theorem sndN (O : Ok call gi fns k X) {e : E} {pe : Expr} (h : Chk gi fns X.N X.env.scope false pe e) : PE X pe (tN call e) := by
  cases hn : e.isNew with
  | true => exact n_of_g (sndG O h hn) hn
  | false => exact n_of_e ((snd e X O).pe h false) hn
theorem gV_nm {i : Nat} {nw : Bool} {v : V} {Q : L2.St → Hp → Prop} (h : gV (.nm i) nw v σ H Q) : gName i v σ H Q := by
  obtain ⟨a0, c0, F, G, ρ, t, d, ρ', R, r, e, q⟩ := h
  by_cases hb : nw = true ∧ ∃ ds, d = .lst ds
  · obtain ⟨rfl, ds, rfl⟩ := hb
    cases e
    exact q _ (R.setO r)
  · have rr : Rep a0 G d v := by
      cases nw with
      | false => exact r
      | true => exact r.rep fun ds hd => hb ⟨rfl, ds, hd⟩
    have e2 : asgT (.nm i) d ρ = some ρ' := by
      unfold asgV at e
      split at e
      · exact absurd ⟨rfl, _, rfl⟩ hb
      · exact e
    cases e2
    exact q _ (R.setV rr)
theorem sw_plain {pe : Expr} {t : Expr} {l : Nat} {e : E} {N : List Str} {sc : Scope} (h : Chk gi fns N sc false pe e) (hc : ∀ o tg it c e', e ≠ .comp o tg it c e') : swapsWithSole [t] pe l X.env = pure false := by
  cases h with
  | comp => exact absurd rfl (hc _ _ _ _ _)
  | _ => rfl
theorem sw_tup {pe : Expr} {ts : List Expr} {kk : Nat} {p : Pos} {l : Nat} {e : E} {N : List Str} {sc : Scope} (h : Chk gi fns N sc false pe e) : swapsWithSole [.Tuple ts kk p] pe l X.env = pure false := by
  cases h <;> rfl
theorem sw_sub {pe : Expr} {a b : Expr} {p : Pos} {l : Nat} {e : E} {N : List Str} {sc : Scope} (h : Chk gi fns N sc false pe e) : swapsWithSole [.Subscript a b p] pe l X.env = pure false := by
  cases h <;> rfl
theorem st_sub {pe : Expr} {a b : Expr} {p : Pos} : swappedStores [.Subscript a b p] pe X.env = pure none := by
  cases pe <;> rfl
theorem st_nm {pe : Expr} {x : Str} {p : Pos} : swappedStores [.Name x p] pe X.env = pure none := by
  cases pe <;> rfl
theorem sndAsg (O : Ok call gi fns k X) (hf : ∀ x, X.fn x = true) {W : Nat} {tg : T} {e : E} {te pe : Expr} {p : Pos} (ht : chkT X.N X.env.scope tg te = true) (he : Chk gi fns X.N X.env.scope false pe e)
    (hw : tupC X.env.scope te pe = true) : PS X (.Assign [te] pe p) (tS call W (.asg tg e)) := by
  have hn := sndN O he
  unfold chkT at ht
  split at ht
  · rename_i i x px
    simp only [Bool.and_eq_true, decide_eq_true_eq] at ht
    have hg := v_nm (pos := px) (nw := e.isNew) O.nd ht.1 (sto_ok hf ht.2)
    by_cases hcp : ∃ o tg it c e', e = .comp o tg it c e'
    · obtain ⟨o, tg', it, c, e', rfl⟩ := hcp
      cases he with
      | @comp _ _ _ _ _ _ _ elt t i' ifs scope q h1 h2 h3 hi hc he =>
        cases hB : (X.env.blockKind == .function && X.env.kindOf x == some .local && px.line == q.line && !(scope.names.any fun (n, k) => n == x && (k == .local || k == .cell))) with
        | false => exact s_asg hn hg (congrArg (pure (f := Sem)) hB) st_nm rfl
        | true =>
          obtain ⟨ok, pi, pg, pt, pe', hs⟩ := g_comp O h1 h2 h3 hi hc he (snd _) (snd _) (snd _)
          have hl : X.env.scope.names.lookup x = some .local := by
            simp only [Bool.and_eq_true, beq_iff_eq] at hB
            exact hB.1.1.2
          refine PS.imp (ps_setLc O.calm O.nd ht.1 hl (congrArg (pure (f := Sem)) hB) pi ok pg pt pe' hs) ?_
          intro Dn σ H h
          have h' := asg_imp Dn σ H h
          obtain ⟨a0, c0, F, G, ρ, t, d, t', R, ev, q⟩ := h'
          exact g_comp_imp h3 σ H _ ⟨a0, c0, F, G, ρ, t, d, t', R, ev, fun v H1 G1 s1 k1 R1 r1 => gV_nm (q v H1 G1 s1 k1 R1 r1)⟩
    · exact s_asg hn hg (sw_plain he fun o tg it c e' q => hcp ⟨o, tg, it, c, e', q⟩) st_nm rfl
  · rename_i is es kk pp
    refine s_asg hn (v_tp (g_tp O.calm O.nd (nms_ok hf _ _ ht))) (sw_tup he) ?_ rfl
    cases pe with
    | Tuple vs k2 p2 => exact sw_none hw
    | _ => rfl
  · cases ht
theorem sndNs (O : Ok call gi fns k X) : ∀ (es : E) (xs : List Expr), ChkEs gi fns X.N X.env.scope xs es → PA X xs (tNs call es) := by
  intro es
  induction es with
  | nil => intro xs h; cases h; exact ns_nil
  | cons e es _ ih => intro xs h; cases h with
    | cons h1 h2 h3 => exact ns_cons h1 (sndN O h2) (ih _ h3)
  | _ => intro xs h; cases h
end
end Ev

/-! Ev12: bodies. -/
namespace Ev
open PySem PySem.Spec PyProof.Rows L2
section
variable {call : Nat → List D → DS → R D} {gi : List (Str × Int)} {fns : List Str} {k : Nat} {X : Cx}
structure AllS (call : Nat → List D → DS → R D) (gi : List (Str × Int)) (fns : List Str) (X : Cx) (W : Nat) (s : S) : Prop where
  one : ∀ st, chk1 gi fns X.N X.env.scope s st = true → PS X st (tS call W s)
  all : ∀ sts, chkSs gi fns X.N X.env.scope s sts = true → PSs X sts (tS call W s)
theorem sto_b {i : Nat} {x : Str} (hf : ∀ x, X.fn x = true) (h : stoB X.N X.env.scope i x = true) : X.N[i]? = some x ∧ Sto X x := by
  unfold stoB at h
  rw [Bool.and_eq_true, decide_eq_true_eq] at h
  exact ⟨h.1, sto_ok hf h.2⟩
theorem sndS (O : Ok call gi fns k X) (hf : ∀ x, X.fn x = true) (hk : X.env.scope.kind = .function) {W : Nat} (s : S) : AllS call gi fns X W s := by
  have ce : ∀ {m e pe}, chk gi fns X.N e X.env.scope m pe = true → Chk gi fns X.N X.env.scope m pe e := fun h => chk_ok _ _ _ _ _ _ _ h
  induction s with
  | nil =>
    refine ⟨fun st h => (by cases st <;> cases h), fun sts h => ?_⟩
    cases sts with
    | nil => exact ss_nil
    | cons => cases h
  | seq a b iha ihb =>
    refine ⟨fun st h => (by cases st <;> cases h), fun sts h => ?_⟩
    cases sts with
    | nil => cases h
    | cons st r =>
      simp only [chkSs, Bool.and_eq_true] at h
      exact ss_cons (iha.one _ h.1) (ihb.all _ h.2)
  | frz is a ih =>
    refine ⟨fun st h => ?_, fun sts h => (by cases sts <;> cases h)⟩
    simp only [chk1] at h
    exact s_frz (ih.one _ h)
  | asg tg e =>
    refine ⟨fun st h => ?_, fun sts h => (by cases sts <;> cases h)⟩
    unfold chk1 at h
    split at h
    all_goals first
      | (rename_i q; cases q; done)
      | (rename_i q _; cases q; done)
      | (cases h; done)
      | skip
    all_goals (first | (rename_i q; cases q) | skip)
    all_goals (simp only [Bool.and_eq_true] at h)
    all_goals exact sndAsg O hf h.1 (ce h.2.1) h.2.2
  | par is es =>
    refine ⟨fun st h => ?_, fun sts h => (by cases sts <;> cases h)⟩
    unfold chk1 at h
    split at h
    all_goals (first | (rename_i q; cases q; done) | (cases h; done) | skip)
    all_goals (first | (rename_i q; cases q) | skip)
    · rw [Bool.or_eq_true] at h
      rcases h with h | h
      · simp only [Bool.and_eq_true] at h
        obtain ⟨hw, h1, h2, he⟩ := h
        obtain ⟨a1, a2⟩ := sto_b hf h1
        obtain ⟨b1, b2⟩ := sto_b hf h2
        exact s_parT O.calm O.nd (.cons a1 a2 (.cons b1 b2 .nil)) (show 2 ≤ 3 from Nat.le_succ 2) hw (sndNs O _ _ (chkEs_ok _ _ _ _ _ _ he))
      simp only [Bool.and_eq_true, decide_eq_true_eq, Bool.not_eq_true', beq_iff_eq] at h
      obtain ⟨⟨h1, h2, h3⟩, hx, hy, hl, hxy, hf1, hc1, he⟩ := h
      have c := chkEs_ok _ _ _ _ _ _ he
      cases c with
      | cons pa ha c =>
        cases c with
        | cons pb hb c =>
          exact s_par2 O.calm O.nd hk h1 h2 h3 (isK_ok hx) (isK_ok hy) (by rw [hl]; exact beq_self_eq_true _) hxy pa pb hf1 hc1 (sndNs O _ _ (chkEs_ok _ _ _ _ _ _ he))
    · simp only [Bool.and_eq_true, decide_eq_true_eq, Bool.not_eq_true', beq_iff_eq] at h
      obtain ⟨⟨h1, h2, h3, h4, h5, h6⟩, hx, hy, hz, hl, hl2, ⟨hxy, hxz, hyz⟩, hf1, hc1, he⟩ := h
      have c := chkEs_ok _ _ _ _ _ _ he
      cases c with
      | cons pa ha c =>
        cases c with
        | cons pb hb c =>
          cases c with
          | cons pc hcc c =>
            exact s_par3 O.calm O.nd hk h1 h2 h3 h4 h5 h6 (isK_ok hx) (isK_ok hy) (isK_ok hz) (by rw [hl]; exact beq_self_eq_true _) (by rw [hl2]; exact beq_self_eq_true _) hxy hxz hyz pa pb pc hf1 hc1 (sndNs O _ _ (chkEs_ok _ _ _ _ _ _ he))
  | aug i neg e =>
    refine ⟨fun st h => ?_, fun sts h => (by cases sts <;> cases h)⟩
    unfold chk1 at h
    split at h
    all_goals (first | (rename_i q; cases q; done) | (cases h; done) | skip)
    all_goals (first | (rename_i q; cases q) | skip)
    simp only [Bool.and_eq_true, decide_eq_true_eq] at h
    obtain ⟨h1, h2, h3⟩ := h
    obtain ⟨g1, g2⟩ := sto_b hf h2
    exact s_aug O.nd g1 g2 h1 ((snd _ X O).pe (ce h3) true)
  | setix i ix e =>
    refine ⟨fun st h => ?_, fun sts h => (by cases sts <;> cases h)⟩
    unfold chk1 at h
    split at h
    all_goals (first | (rename_i q; cases q; done) | (cases h; done) | skip)
    all_goals (first | (rename_i q; cases q) | skip)
    simp only [Bool.and_eq_true, decide_eq_true_eq] at h
    obtain ⟨h1, h2, h3, h4⟩ := h
    exact s_setix h1 h2 (chk_plain (ce h3)) ((snd _ X O).pe (ce h4) false) ((snd _ X O).pe (ce h3) true) (sw_sub (ce h4)) st_sub
  | app i e =>
    refine ⟨fun st h => ?_, fun sts h => (by cases sts <;> cases h)⟩
    unfold chk1 at h
    split at h
    all_goals (first | (rename_i q; cases q; done) | (cases h; done) | skip)
    all_goals (first | (rename_i q; cases q) | skip)
    simp only [Bool.and_eq_true, decide_eq_true_eq] at h
    obtain ⟨⟨rfl, h1⟩, h2, h3, h4⟩ := h
    exact s_app h1 h2 (chk_plain (ce h4)) ((snd _ X O).pe (ce h4) false) h3
  | ext i e =>
    refine ⟨fun st h => ?_, fun sts h => (by cases sts <;> cases h)⟩
    unfold chk1 at h
    split at h
    all_goals (first | (rename_i q; cases q; done) | (cases h; done) | skip)
    all_goals (first | (rename_i q; cases q) | skip)
    simp only [Bool.and_eq_true, decide_eq_true_eq] at h
    obtain ⟨⟨rfl, h1⟩, h2, h3, h4⟩ := h
    exact s_ext h1 h2 (chk_plain (ce h4)) ((snd _ X O).pe (ce h4) true) h3
  | ins i k e =>
    refine ⟨fun st h => ?_, fun sts h => (by cases sts <;> cases h)⟩
    unfold chk1 at h
    split at h
    all_goals (first | (rename_i q; cases q; done) | (cases h; done) | skip)
    all_goals (first | (rename_i q; cases q) | skip)
    simp only [Bool.and_eq_true, decide_eq_true_eq] at h
    obtain ⟨⟨rfl, h1⟩, h2, h3, h4, h5⟩ := h
    exact s_ins h1 h2 (chk_plain (ce h4)) (chk_plain (ce h5)) ((snd _ X O).pe (ce h4) true) ((snd _ X O).pe (ce h5) false) h3
  | ifS c a b iha ihb =>
    refine ⟨fun st h => ?_, fun sts h => (by cases sts <;> cases h)⟩
    unfold chk1 at h
    split at h
    all_goals (first | (rename_i q; cases q; done) | (cases h; done) | skip)
    all_goals (first | (rename_i q; cases q) | skip)
    simp only [Bool.and_eq_true] at h
    exact s_if ((snd _ X O).pt (ce h.1)) (iha.all _ h.2.1) (ihb.all _ h.2.2)
  | whileS fz c b ih =>
    refine ⟨fun st h => ?_, fun sts h => (by cases sts <;> cases h)⟩
    unfold chk1 at h
    split at h
    all_goals (first | (rename_i q; cases q; done) | (cases h; done) | skip)
    all_goals (first | (rename_i q; cases q) | skip)
    simp only [Bool.and_eq_true] at h
    exact s_while O.pass ((snd _ X O).pt (ce h.1)) (ih.all _ h.2)
  | forS tg it b ih =>
    refine ⟨fun st h => ?_, fun sts h => (by cases sts <;> cases h)⟩
    unfold chk1 at h
    split at h
    all_goals (first | (rename_i q; cases q; done) | (cases h; done) | skip)
    all_goals (first | (rename_i q; cases q) | skip)
    · simp only [Bool.and_eq_true, decide_eq_true_eq] at h
      obtain ⟨h1, rfl, h3, h4, h5⟩ := h
      have c := chkEs_ok _ _ _ _ _ _ h4
      exact s_for O.pass O.calm (i_rng O h3 c ((snd _ X O).list c true)) (gT_ok O hf h1) (ih.all _ h5) (fun _ => rfl)
    · simp only [Bool.and_eq_true, Bool.not_eq_true'] at h
      obtain ⟨h1, h2, h3, h4⟩ := h
      exact s_for O.pass O.calm (i_e ((snd _ X O).pe (ce h3) false)) (gT_ok O hf h1) (ih.all _ h4) (fold_ok (chk_plain (ce h3)) _)
  | ret e =>
    refine ⟨fun st h => ?_, fun sts h => (by cases sts <;> cases h)⟩
    unfold chk1 at h
    split at h
    all_goals (first | (rename_i q; cases q; done) | (cases h; done) | skip)
    all_goals (first | (rename_i q; cases q) | skip)
    exact s_ret ((snd _ X O).pe (ce h) false)
  | brk =>
    refine ⟨fun st h => ?_, fun sts h => (by cases sts <;> cases h)⟩
    cases st <;> first | exact s_brk | cases h
  | cont =>
    refine ⟨fun st h => ?_, fun sts h => (by cases sts <;> cases h)⟩
    cases st <;> first | exact s_cont | cases h
  | bad => exact ⟨fun st h => s_bad, fun sts h => (by cases sts <;> cases h)⟩
end
end Ev

/-! Ev13: the draws. -/
namespace Ev
open PySem PySem.Spec PyProof.Rows L2
section
mutual
/-- a reading without an environment -/
def rd (K : PySem.W.Frag) : E → TE
  | .var i => tVar i
  | .int i => L2.tC (.int i)
  | .bin op a b => tOp (rBin K op) (rd K a) (rd K b)
  | .blt f es => tCB (rBl K f) (rds K es)
  | .ix a i => tOp (rIx K) (rd K a) (rd K i)
  | .cmp op a b => tOp (rCmp K op) (rd K a) (rd K b)
  | _ => fun _ _ _ => False
def rds (K : PySem.W.Frag) : E → TA
  | .nil => tNil
  | .cons e es => tCons (rd K e) (rds K es)
  | _ => fun _ _ _ => False
end
variable {call : Nat → List D → DS → R D} {gi : List (Str × Int)} {fns : List Str} {k : Nat} {X : Cx}
theorem rd_ok (O : Ok call gi fns k X) (e : E) : (∀ pe m, Chk gi fns X.N X.env.scope m pe e → PE X pe (rd X.K e)) ∧ (∀ xs, ChkEs gi fns X.N X.env.scope xs e → PA X xs (rds X.K e)) := by
  have bad : ∀ pe, PE X pe (fun _ _ _ => False) := fun pe => ⟨fun pins s σ H Q I h => h.elim⟩
  induction e with
  | var i =>
    refine ⟨fun pe m h => ?_, fun xs h => by cases h⟩
    cases h with
    | var h1 h2 => obtain ⟨g1, g2, g3⟩ := vis_ok h2; exact pe_var h1 g1 g2 g3
  | int i =>
    refine ⟨fun pe m h => ?_, fun xs h => by cases h⟩
    cases h with
    | int => exact pe_int
  | bin op a b iha ihb =>
    refine ⟨fun pe m h => ?_, fun xs h => by cases h⟩
    cases h with
    | bin h1 h2 => exact pe_op (opBin op) (iha.1 _ _ h1) (ihb.1 _ _ h2)
  | blt f es ih =>
    refine ⟨fun pe m h => ?_, fun xs h => by cases h⟩
    cases h with
    | blt h1 h2 =>
      have h3 := h2
      cases h3 with
      | cons c1 c2 c3 => exact pe_blt (bltR O.calm f) (isK_ok h1) (O.bn f) (ih.2 _ h2) (star_ok c1) (back_ok _ (any_ok c3))
  | ix a i iha ihb =>
    refine ⟨fun pe m h => ?_, fun xs h => by cases h⟩
    cases h with
    | ix h0 h1 h2 => exact pe_ix ix_seq (iha.1 _ _ h1) (ihb.1 _ _ h2) (ixp_ok h0)
  | cmp op a b iha ihb =>
    have hu : X.A.units + 65 < cLine := by have := O.hr.un; omega
    refine ⟨fun pe m h => ?_, fun xs h => by cases h⟩
    cases h with
    | cmp h0 h1 h2 => exact pe_cmpR (opCmp hu op) (iha.1 _ _ h1) (ihb.1 _ _ h2) (marks_ok h0)
  | nil => exact ⟨fun pe m h => (by cases h), fun xs h => (by cases h; exact pa_nil)⟩
  | cons e es ih1 ih2 =>
    refine ⟨fun pe m h => (by cases h), fun xs h => ?_⟩
    cases h with
    | cons h1 h2 h3 => exact pa_cons (ih1.1 _ _ h2) (ih2.2 _ h3) (star_ok h1)
  | _ => exact ⟨fun pe m h => bad pe, fun xs h => by cases h⟩
theorem rdT_ok (O : Ok call gi fns k X) {op : CmpOp} {a b : E} {pe : Expr} {m : Bool} (h : Chk gi fns X.N X.env.scope m pe (.cmp op a b)) : PT X pe (tTest (rd X.K (.cmp op a b))) := by
  have hu : X.A.units + 65 < cLine := by have := O.hr.un; omega
  cases h with
  | cmp h0 h1 h2 => exact pt_cmpR (opCmp hu op) ((rd_ok O _).1 _ _ h1) ((rd_ok O _).1 _ _ h2) (marks_ok h0)
def ei (e : E) : E := .blt .int (.cons e .nil)
def el (e : E) : E := .blt .len (.cons e .nil)
def k1 : E := .cmp .Lt (.var 1) (.int 2)
def k2 : E := .ix (.var 0) (.int 1)
def k3 : E := .bin .mod (ei (.ix (.var 0) (.int 0))) (el (.var 2))
def k4 : E := .ix (.var 2) (.var 3)
def k5 : E := .cmp .GtE (.var 4) (.int 1000000000000000000)
def k5a : E := .bin .fdiv (.var 4) (.var 1)
def k5b : E := .bin .mod (ei (.var 4)) (.var 1)
def k6 : E := .bin .add (.ix (.var 0) (.int 0)) (.int 1)
def k7 : E := .bin .mod (ei (.bin .add (.bin .mul (.var 4) (.int 48271)) (.bin .mul (.ix (.var 0) (.int 0)) (.int 69621)))) (.int 2147483647)
def k8 : E := .bin .mod (ei (.bin .add (.bin .mul (.var 5) (.int 16807)) (.bin .mul (.ix (.var 0) (.int 0)) (.int 7919)))) (.int 1000000007)
def k9 : E := .bin .mod (ei (.bin .fdiv (.var 5) (.int 7))) (.var 1)
/-- the text of the draw -/
def takeB (N : List Str) (sc : Scope) : List Stmt → Bool
  | [.If c1 [.Return (some r1) _] [] _, .Assign [.Name x2 p2] e2 _, .Assign [.Name x3 p3] e3 _, .Assign [.Name x4 p4] e4 _, .If c5 [.Assign [.Subscript (.Name x5 p5) i5 _] e5 _, .Return (some r5) _] [] _,
      .Assign [.Subscript (.Name x6 p6) i6 _] e6 _, .Assign [.Name x7 p7] e7 _, .Assign [.Name x8 p8] e8 _, .Return (some r9) _] =>
    chk [] [] N k1 sc true c1 && (chk [] [] N (.int 0) sc false r1 && (chkT N sc (.nm 2) (.Name x2 p2) && (chk [] [] N k2 sc false e2 && (chkT N sc (.nm 3) (.Name x3 p3) && (chk [] [] N k3 sc false e3 && (chkT N sc (.nm 4) (.Name x4 p4) && (chk [] [] N k4 sc false e4 &&
      (chk [] [] N k5 sc true c5 && (chk [] [] N (.var 2) sc false (.Name x5 p5) && (chk [] [] N (.var 3) sc false i5 && (chk [] [] N k5a sc false e5 && (chk [] [] N k5b sc false r5 &&
      (chk [] [] N (.var 0) sc false (.Name x6 p6) && (chk [] [] N (.int 0) sc false i6 && (chk [] [] N k6 sc false e6 && (chkT N sc (.nm 5) (.Name x7 p7) && (chk [] [] N k7 sc false e7 && (chkT N sc (.nm 5) (.Name x8 p8) && (chk [] [] N k8 sc false e8 && chk [] [] N k9 sc false r9)))))))))))))))))))
  | _ => false
def tTake (K : PySem.W.Frag) : TS :=
  tSeq (tIfS (tTest (rd K k1)) (tRet (rd K (.int 0))) tNext)
  (tSeq (tAsg (rd K k2) (gName 2))
  (tSeq (tAsg (rd K k3) (gName 3))
  (tSeq (tAsg (rd K k4) (gName 4))
  (tSeq (tIfS (tTest (rd K k5)) (tSeq (tAsg (rd K k5a) (gSub (rd K (.var 2)) (rd K (.var 3)) rSetL)) (tRet (rd K k5b))) tNext)
  (tSeq (tAsg (rd K k6) (gSub (rd K (.var 0)) (rd K (.int 0)) rSetL))
  (tSeq (tAsg (rd K k7) (gName 5))
  (tSeq (tAsg (rd K k8) (gName 5)) (tRet (rd K k9)))))))))
theorem rd_asg (O : Ok call [] [] k X) (hf : ∀ x, X.fn x = true) {e : E} {i : Nat} {x : Str} {px p : Pos} {pe : Expr} (h1 : chkT X.N X.env.scope (.nm i) (.Name x px) = true) (h2 : chk [] [] X.N e X.env.scope false pe = true) (hn : ∀ o tg it c e', e ≠ .comp o tg it c e') :
    PS X (.Assign [.Name x px] pe p) (tAsg (rd X.K e) (gName i)) := by
  simp only [chkT, Bool.and_eq_true, decide_eq_true_eq] at h1
  have c := chk_ok _ _ _ _ _ _ _ h2
  have hx := sto_ok hf h1.2
  exact ps_asg ((rd_ok O _).1 _ _ c) (pg_name O.nd h1.1 (hx.imp id (·.1)) (hx.symm.imp (·.2) id)) (sw_plain c hn) st_nm rfl
theorem rd_setix (O : Ok call [] [] k X) {o e ix : E} {x : Str} {px p p2 : Pos} {pi pe : Expr} (h1 : chk [] [] X.N o X.env.scope false (.Name x px) = true) (h2 : chk [] [] X.N ix X.env.scope false pi = true) (h3 : chk [] [] X.N e X.env.scope false pe = true) :
    PS X (.Assign [.Subscript (.Name x px) pi p2] pe p) (tAsg (rd X.K e) (gSub (rd X.K o) (rd X.K ix) rSetL)) := by
  have c := chk_ok _ _ _ _ _ _ _ h3
  have ci := chk_ok _ _ _ _ _ _ _ h2
  exact ps_asg ((rd_ok O _).1 _ _ c) (pg_sub ((rd_ok O _).1 _ _ (chk_ok _ _ _ _ _ _ _ h1)) ((rd_ok O _).1 _ _ ci) set_list (by intro v; have := chk_plain ci; cases pi <;> first | rfl | cases this)) (sw_sub c) st_sub rfl
theorem take_walk (O : Ok call [] [] k X) (hf : ∀ x, X.fn x = true) {body : List Stmt} (h : takeB X.N X.env.scope body = true) : PSs X body (tTake X.K) := by
  have ce : ∀ {m e pe}, chk [] [] X.N e X.env.scope m pe = true → Chk [] [] X.N X.env.scope m pe e := fun h => chk_ok _ _ _ _ _ _ _ h
  have cp : ∀ {e pe}, chk [] [] X.N e X.env.scope false pe = true → PE X pe (rd X.K e) := fun h => (rd_ok O _).1 _ _ (ce h)
  unfold takeB at h
  split at h
  · simp only [Bool.and_eq_true] at h
    obtain ⟨h1, h2, h3, h4, h5, h6, h7, h8, h9, h10, h11, h12, h13, h14, h15, h16, h17, h18, h19, h20, h21⟩ := h
    refine pss_cons (ps_if (rdT_ok O (ce h1)) (pss_one (ps_ret (cp h2))) pss_nil) ?_
    refine pss_cons (rd_asg O hf h3 h4 (by intros; exact fun q => nomatch q)) ?_
    refine pss_cons (rd_asg O hf h5 h6 (by intros; exact fun q => nomatch q)) ?_
    refine pss_cons (rd_asg O hf h7 h8 (by intros; exact fun q => nomatch q)) ?_
    refine pss_cons (ps_if (rdT_ok O (ce h9)) (pss_cons (rd_setix O h10 h11 h12) (pss_one (ps_ret (cp h13)))) pss_nil) ?_
    refine pss_cons (rd_setix O h14 h15 h16) ?_
    refine pss_cons (rd_asg O hf h17 h18 (by intros; exact fun q => nomatch q)) ?_
    refine pss_cons (rd_asg O hf h19 h20 (by intros; exact fun q => nomatch q)) ?_
    exact pss_one (ps_ret (cp h21))
  · cases h
/-- what a draw is -/
def st1 (n c : Int) : Int := (c * 48271 + (n + 1) * 69621) % 2147483647
def st2 (n c : Int) : Int := (st1 n c * 16807 + (n + 1) * 7919) % 1000000007
def takeF (most : Int) (t : DS) : R D :=
  if most < 2 then some (.int 0, t) else
  if 1073741824 ≤ most then none else
  match L2.atI t.cells (t.n % (t.cells.length : Int)) with
  | none => none
  | some c => if 1000000000000000000 ≤ c then some (.int (c % most), ⟨t.n, t.cells.set (t.n % (t.cells.length : Int)).toNat (c / most)⟩)
    else some (.int (st2 t.n c / 7 % most), ⟨t.n + 1, t.cells⟩)
theorem ixn_mod {α : Type} {xs : List α} {n : Int} {x : α} (h : L2.atI xs (n % (xs.length : Int)) = some x) : 0 < (xs.length : Int) ∧ L2.ixN xs.length (n % (xs.length : Int)) = some (n % (xs.length : Int)).toNat := by
  have hl : 0 < xs.length := by
    cases xs with
    | nil => unfold L2.atI at h; simp [L2.ixN] at h
    | cons => simp
  have h1 : 0 < (xs.length : Int) := by omega
  have h2 := Int.emod_nonneg n (Int.ne_of_gt h1)
  have h3 := Int.emod_lt_of_pos n h1
  refine ⟨h1, ?_⟩
  unfold L2.ixN
  rw [if_pos h2, if_pos (by omega)]
theorem atI_map {α β : Type} {f : α → β} {xs : List α} {i : Int} {x : α} (h : L2.atI xs i = some x) : L2.atI (xs.map f) i = some (f x) := by
  unfold L2.atI at h ⊢
  rw [List.length_map]
  cases e : L2.ixN xs.length i with
  | none => rw [e] at h; cases h
  | some j => rw [e] at h; simp only [Option.bind_some] at h ⊢; rw [List.getElem?_map, h]; rfl
theorem take_run {K : PySem.W.Frag} {a0 c0 : Addr} {F G H : Hp} {t t' : DS} {N : List Str} {most : Int} {d : D} {Dn : Ends} (hN : N.length = 6) (S : StOk a0 c0 F G H t) (e : takeF most t = some (d, t'))
    (q : ∀ i H', d = .int i → Keep a0 c0 H H' → StOk a0 c0 F G H' t' → Dn.rt (.int i) H') : tTake K Dn (L2.start N [.ref a0, .int most]) H := by
  have hs : L2.start N [.ref a0, .int most] = [some (.ref a0), some (.int most), none, none, none, none] := by
    unfold L2.start
    rw [hN]
    rfl
  rw [hs]
  have hne : a0 ≠ c0 := by
    rintro rfl
    have h := S.h0.symm.trans S.hc
    match t.cells, h with
    | [], h => cases h
    | [_], h => cases h
    | _ :: _ :: _, h => cases h
  unfold takeF at e
  refine ⟨_, rfl, most, 2, rfl, rfl, _, rfl, ?_⟩
  by_cases hm : most < 2
  · rw [if_pos hm] at e
    cases e
    rw [if_pos (decide_eq_true hm)]
    exact q 0 H rfl Keep.refl S
  · rw [if_neg hm] at e
    rw [if_neg (by simpa using hm)]
    by_cases hb : 1073741824 ≤ most
    · rw [if_pos hb] at e; cases e
    · rw [if_neg hb] at e
      cases ec : L2.atI t.cells (t.n % (t.cells.length : Int)) with
      | none => rw [ec] at e; cases e
      | some c =>
        rw [ec] at e
        obtain ⟨hl, hj⟩ := ixn_mod ec
        have ec2 : L2.atI (t.cells.map V.int) (t.n % ((t.cells.map V.int).length : Int)) = some (V.int c) := by
          rw [List.length_map]; exact atI_map ec
        have q0 : SqL K H a0 [.int t.n, .ref c0] := SqL.of S.h0
        have qc : SqL K H c0 (t.cells.map V.int) := SqL.of S.hc
        refine ⟨_, rfl, .inl ⟨a0, _, 1, .ref c0, rfl, rfl, q0, rfl, ?_⟩⟩
        refine ⟨_, rfl, .inl ⟨a0, _, 0, .int t.n, rfl, rfl, q0, rfl, .inl ⟨t.n, rfl, ?_⟩⟩⟩
        refine ⟨_, rfl, _, (t.cells.map V.int).length, rfl, .inl ⟨_, qc, rfl⟩, t.n, _, rfl, rfl, by rw [List.length_map]; exact hl, ?_⟩
        refine ⟨_, rfl, _, rfl, .inl ⟨c0, _, _, .int c, rfl, rfl, qc, ec2, ?_⟩⟩
        refine ⟨_, rfl, c, _, rfl, rfl, _, rfl, ?_⟩
        by_cases hc : 1000000000000000000 ≤ c
        · refine Eq.mpr (if_pos (decide_eq_true hc)) ?_
          dsimp only at e
          rw [if_pos hc] at e
          cases e
          refine ⟨_, rfl, _, rfl, c, most, rfl, rfl, ⟨by omega, by omega⟩, ?_⟩
          refine ⟨_, rfl, _, rfl, c0, _, _, _, rfl, rfl, S.hc, (by simpa using hj), ?_⟩
          refine ⟨_, rfl, .inl ⟨c, rfl, _, rfl, c, most, rfl, rfl, by omega, ?_⟩⟩
          refine q _ _ rfl (fun b o hb h0 h1 => by rw [upd_ne h1]; exact hb) ⟨by rw [upd_ne hne]; exact S.h0, ?_, S.f0, S.fc, S.g0, S.gc⟩
          rw [upd_same, List.map_set]
        · refine Eq.mpr (if_neg (by rw [decide_eq_true_eq]; exact hc)) ?_
          dsimp only at e
          rw [if_neg hc] at e
          cases e
          refine ⟨_, rfl, .inl ⟨a0, _, 0, .int t.n, rfl, rfl, q0, rfl, .inl ⟨t.n, 1, rfl, rfl, ?_⟩⟩⟩
          refine ⟨_, rfl, a0, _, 0, 0, rfl, rfl, S.h0, rfl, ?_⟩
          have q1 : SqL K (upd H a0 (.lst [.int (t.n + 1), .ref c0])) a0 [.int (t.n + 1), .ref c0] := SqL.of upd_same
          refine ⟨_, rfl, .inl ⟨c, 48271, rfl, rfl, .inr ⟨by decide, by decide⟩, ?_⟩⟩
          refine ⟨_, rfl, .inl ⟨a0, _, 0, .int (t.n + 1), rfl, rfl, q1, rfl, .inl ⟨_, 69621, rfl, rfl, .inr ⟨by decide, by decide⟩, .inl ⟨_, _, rfl, rfl, .inl ⟨_, rfl, _, _, rfl, rfl, (by decide : (0 : Int) < _), ?_⟩⟩⟩⟩⟩
          refine ⟨_, rfl, .inl ⟨_, 16807, rfl, rfl, .inr ⟨by decide, by decide⟩, ?_⟩⟩
          refine ⟨_, rfl, .inl ⟨a0, _, 0, .int (t.n + 1), rfl, rfl, q1, rfl, .inl ⟨_, 7919, rfl, rfl, .inr ⟨by decide, by decide⟩, .inl ⟨_, _, rfl, rfl, .inl ⟨_, rfl, _, _, rfl, rfl, (by decide : (0 : Int) < _), ?_⟩⟩⟩⟩⟩
          refine ⟨_, rfl, _, 7, rfl, rfl, ⟨by decide, by decide⟩, .inl ⟨_, rfl, _, rfl, _, most, rfl, rfl, by omega, ?_⟩⟩
          exact q _ _ rfl (fun b o hb h0 h1 => by rw [upd_ne h0]; exact hb) ⟨upd_same, by rw [upd_ne (Ne.symm hne)]; exact S.hc, S.f0, S.fc, S.g0, S.gc⟩
end
end Ev

/-! Ev14: the state of the draws. -/
namespace Ev
open PySem PySem.Spec PyProof.Rows L2
section
variable {call : Nat → List D → DS → R D} {gi : List (Str × Int)} {fns : List Str} {k : Nat} {X : Cx}
def eAbs : E := .blt .abs (.cons (.var 2) .nil)
def eNo : E := .cmp .Eq (el (.var 1)) (.int 0)
/-- the text of the state's def -/
def stateB (N : List Str) (sc : Scope) : List Stmt → Bool
  | [.Assign [.Name x1 p1] (.ListComp elt [⟨.Name x2 p2, .Subscript x0 (.Slice none (some e63) none ps) pq, [], 0⟩] scope pl) pa, .If c [.Assign [.Name x3 p3] (.List [z1] pz) pa3] [] pi, .Return (some (.List [z2, x4] pr)) pt] =>
    chk [] [] N (.var 0) sc false x0 && (chk [] [] N (.int 63) sc false e63 && (chkT N sc (.nm 1) (.Name x1 p1) && (blkC N sc scope [(x2, 2)] && (chkT N scope (.nm 2) (.Name x2 p2) && (chk [] [] N eAbs (relS scope sc) false elt &&
      (chk [] [] N eNo sc true c && (chkT N sc (.nm 1) (.Name x3 p3) && (chk [] [] N (.int 0) sc false z1 && (chk [] [] N (.int 0) sc false z2 && chk [] [] N (.var 1) sc false x4)))))))))
  | _ => false
def tState (K : PySem.W.Frag) : TS :=
  tSeq (tAsg (tLc (iList K (L2.tSl (rSlL K) (rd K (.var 0)) tNoPart (tPart (rd K (.int 63))))) (gName 2) tYes (rd K eAbs) [2]) (gName 1))
  (tSeq (tIfS (tTest (rd K eNo)) (tAsg (tLst (tCons (rd K (.int 0)) tNil)) (gName 1)) tNext)
  (tRet (tLst (tCons (rd K (.int 0)) (tCons (rd K (.var 1)) tNil)))))
theorem state_walk (O : Ok call [] [] k X) (hf : ∀ x, X.fn x = true) {body : List Stmt} (h : stateB X.N X.env.scope body = true) : PSs X body (tState X.K) := by
  have ce : ∀ {m e pe}, chk [] [] X.N e X.env.scope m pe = true → Chk [] [] X.N X.env.scope m pe e := fun h => chk_ok _ _ _ _ _ _ _ h
  have cp : ∀ {e pe}, chk [] [] X.N e X.env.scope false pe = true → PE X pe (rd X.K e) := fun h => (rd_ok O _).1 _ _ (ce h)
  have cs : ∀ {e pe}, chk [] [] X.N e X.env.scope false pe = true → plainX pe = true := fun h => chk_plain (ce h)
  unfold stateB at h
  split at h
  · rename_i x1 p1 elt x2 p2 x0 e63 ps pq scope pl pa c x3 p3 z1 pz pa3 pi z2 x4 pr pt
    simp only [Bool.and_eq_true] at h
    obtain ⟨h1, h2, h3, h4, h5, h6, h7, h8, h9, h10, h11⟩ := h
    simp only [chkT, Bool.and_eq_true, decide_eq_true_eq] at h3 h5 h8
    have sl := pe_slice (p2 := ps) (pos := pq) sl_list (cp h1) po_none (po_some (cp h2))
    have pi := pi_list (tg := .Name x2 p2) sl
    have ok := blkOk_by h4
    have hx := sto_ok hf h3.2
    have hg := pg_name (pos := p1) O.nd h3.1 (hx.imp id (·.1)) (hx.symm.imp (·.2) id)
    have pg : ∀ (s : Shared) (H : Hp) (C : Addr) (cl : List (Str × Addr)) (fp : List Addr), PG (X.blk s H scope (compEnvC scope cl C X.env) fp) (.Name x2 p2) (gName 2) := fun s H C cl fp => by
      rcases Bool.or_eq_true_iff.mp h5.2 with h | h
      · exact pg_name (X := X.blk s H scope (compEnvC scope cl C X.env) fp) O.nd h5.1 (.inl (lookup_relS_keep (by decide) (isK_ok h))) (.inr (lookup_relS_keep (by decide) (isK_ok h)))
      · refine pg_name (X := X.blk s H scope (compEnvC scope cl C X.env) fp) O.nd h5.1 (.inr (lookup_relS_keep (by decide) (isK_ok h))) (.inl ?_)
        show (scope.names.lookup x2 == some .cell) = true
        rw [isK_ok h]; rfl
    have pt : ∀ (s : Shared) (H : Hp) (C : Addr) (cl : List (Str × Addr)) (fp : List Addr), PTs (X.blk s H scope (compEnvC scope cl C X.env) fp) [] tYes := fun _ _ _ _ _ => pts_nil
    have pe : ∀ (s : Shared) (H : Hp) (C : Addr) (cl : List (Str × Addr)) (fp : List Addr), PE (X.blk s H scope (compEnvC scope cl C X.env) fp) elt (rd X.K eAbs) := fun s H C cl fp =>
      (rd_ok (O.blk s H scope (compEnvC scope cl C X.env) fp) _).1 _ _ (chk_ok _ _ _ _ _ _ _ h6)
    have first : PS X (.Assign [.Name x1 p1] (.ListComp elt [⟨.Name x2 p2, .Subscript x0 (.Slice none (some e63) none ps) pq, [], 0⟩] scope pl) pa) (tAsg (tLc (iList X.K (L2.tSl (rSlL X.K) (rd X.K (.var 0)) tNoPart (tPart (rd X.K (.int 63))))) (gName 2) tYes (rd X.K eAbs) [2]) (gName 1)) := by
      cases hB : (X.env.blockKind == .function && X.env.kindOf x1 == some .local && p1.line == pl.line && !(scope.names.any fun (n, k) => n == x1 && (k == .local || k == .cell))) with
      | false => exact ps_asg (pe_lc (own := [(x2, 2)]) O.calm O.nd pi ok pg pt pe fun _ => rfl) hg (congrArg (pure (f := Sem)) hB) st_nm rfl
      | true =>
        have hl : X.env.scope.names.lookup x1 = some .local := by
          simp only [Bool.and_eq_true, beq_iff_eq] at hB
          exact hB.1.1.2
        exact ps_setLc (own := [(x2, 2)]) O.calm O.nd h3.1 hl (congrArg (pure (f := Sem)) hB) pi ok pg pt pe fun _ => rfl
    have hx3 := sto_ok hf h8.2
    refine pss_cons first (pss_cons (ps_if (rdT_ok O (ce h7)) (pss_one (ps_asg (pe_lst (pa_cons (cp h9) pa_nil (star_ok (cs h9)))) (pg_name O.nd h8.1 (hx3.imp id (·.1)) (hx3.symm.imp (·.2) id)) rfl rfl rfl)) pss_nil) (pss_one (ps_ret ?_)))
    exact pe_lst (pa_cons (cp h10) (pa_cons (cp h11) pa_nil (star_ok (cs h11))) (star_ok (cs h10)))
  · cases h
/-- the state comes new -/
def spState (K : PySem.W.Frag) : Sp := fun vs H Q _ => ∃ (a : Addr) (ns : List Int), vs = [V.ref a] ∧ SqL K H a (ns.map V.int) ∧ ns.length ≤ 1000 ∧ ∀ (a0 c0 : Addr) (t : DS) (H' : Hp), Sub H H' → t.n = 0 → t.cells ≠ [] → StOk a0 c0 (fun _ => none) (fun _ => none) H' t → Q (.ref a0) H'
def absL (ns : List Int) : List Int := (cut ns none (some 63)).map fun i => if i < 0 then -i else i
theorem cut_map (ns : List Int) (lo hi : Option Int) : cutV (ns.map V.int) lo hi = (cut ns lo hi).map V.int := by
  unfold cutV cut
  rw [List.length_map, List.map_take, List.map_drop]
theorem state_run {K : PySem.W.Frag} {vs : List V} {H : Hp} {N : List Str} {Dn : Ends} {E : XK} (hN : N.length = 3) (h : spState K vs H Dn.rt E) : tState K Dn (L2.start N vs) H := by
  obtain ⟨a, ns, rfl, hS, hlen, q⟩ := h
  have hs : L2.start N [.ref a] = [some (.ref a), none, none] := by
    unfold L2.start
    rw [hN]
    rfl
  rw [hs]
  have hz : sizeLine = 16777216 := sizeLine_eq
  refine ⟨_, rfl, 63, rfl, a, _, rfl, hS, fun p np => ?_⟩
  rw [cut_map]
  have hle : (cut ns none (some 63)).length ≤ 1000 := by
    unfold cut
    rw [List.length_take, List.length_drop]
    omega
  refine ⟨p, rfl, ⟨_, SqL.of upd_same⟩, fun D nD => ?_⟩
  have npD : D ≠ p := by rintro rfl; rw [upd_same] at nD; cases nD
  refine lc_list (K := K) (xs := (cut ns none (some 63)).map V.int) (fun i H' => H' = upd (upd H p (.lst ((cut ns none (some 63)).map V.int))) D (.lst (((cut ns none (some 63)).take i).map fun i => V.int (if i < 0 then -i else i)))) rfl (fun i H' hi e => ?_) (fun i x H' hx e => ?_) (fun H' e => ?_)
  · subst e
    exact SqL.of (by rw [upd_ne (Ne.symm npD)]; exact upd_same)
  · subst e
    rw [List.getElem?_map] at hx
    obtain ⟨m, hm, rfl⟩ := Option.map_eq_some_iff.mp hx
    have hi : i < (cut ns none (some 63)).length := (List.getElem?_eq_some_iff.mp hm).1
    refine ⟨rfl, ?_⟩
    show rd K eAbs _ _ _
    refine ⟨_, rfl, m, rfl, _, upd_same, ?_, ?_⟩
    · rw [List.length_map, List.length_take]; omega
    · show upd (upd _ D _) D _ = _
      rw [upd_upd]
      congr 1
      rw [List.take_add_one, hm, List.map_append]
      rfl
  · rw [List.length_map, List.take_length] at e
    subst e
    have hfin : ∀ (H2 : Hp) (l : List Int) (c : Addr), l ≠ [] → Sub H H2 → H2 c = some (.lst (l.map V.int)) → tRet (tLst (tCons (rd K (.int 0)) (tCons (rd K (.var 1)) tNil))) Dn [some (.ref a), some (.ref c), none] H2 := by
      intro H2 l c hl hS2 hc
      refine ⟨_, rfl, by rw [hz]; exact (by decide : 2 ≤ 16777216), fun p2 n2 => ?_⟩
      have hne : c ≠ p2 := by rintro rfl; rw [hc] at n2; cases n2
      exact q p2 c ⟨0, l⟩ _ (hS2.trans (Sub.upd n2)) rfl hl ⟨upd_same, by rw [upd_ne hne]; exact hc, rfl, rfl, rfl, rfl⟩
    have hsub : Sub H (upd (upd H p (.lst ((cut ns none (some 63)).map V.int))) D (.lst ((cut ns none (some 63)).map fun i => V.int (if i < 0 then -i else i)))) := (Sub.upd np).trans (Sub.upd nD)
    refine ⟨_, rfl, _, _, rfl, .inl ⟨_, SqL.of upd_same, rfl⟩, .int _, .int 0, .int _, .int _, rfl, rfl, _, rfl, ?_⟩
    rw [List.length_map]
    by_cases h0 : (cut ns none (some 63)).length = 0
    · refine Eq.mpr (if_pos ?_) ?_
      · rw [h0]; rfl
      · refine ⟨by rw [hz]; decide, fun p2 n2 => ?_⟩
        exact hfin _ [0] p2 (by simp) (hsub.trans (Sub.upd n2)) upd_same
    · refine Eq.mpr (if_neg ?_) ?_
      · intro h
        have : (((cut ns none (some 63)).length : Nat) : Int) = 0 := by simpa [PyData.eqv] using h
        omega
      · refine hfin _ (absL ns) D ?_ hsub ?_
        · intro h
          apply h0
          have := congrArg List.length h
          simpa [absL] using this
        · rw [upd_same]
          simp [absL, Function.comp_def]
end
end Ev

/-! Ev15: a program of defs. -/
namespace Ev
open PySem PySem.Spec PyProof.Rows L2
/-- a def as data -/
structure Df where
  key : Str
  ps : Nat
  N : List Str
  W : Nat
  body : S
def startE (n : Nat) (ds : List D) : EnvD := ds.map (fun d => some (.val d)) ++ List.replicate (n - ds.length) none
/-- how a body ends -/
def endF : R Fl → R D
  | some (.rt v, t) => some (v, t)
  | some (.nx _, t) => some (.non, t)
  | _ => none
def takeA (args : List D) (t : DS) : R D := match args with
  | [.st, .int m] => takeF m t
  | _ => none
/-- the program's defs, at a depth -/
def run (tk : Nat) (ds : List Df) : Nat → Nat → List D → DS → R D
  | 0, _, _, _ => none
  | n + 1, f, args, t => match f == tk with
    | true => takeA args t
    | false => match ds[f]? with
      | some d => match args.length == d.ps with
        | true => endF (exec (run tk ds n) d.W d.body (startE d.N.length args) t)
        | false => none
      | none => none
/-- what stands behind a def's key -/
structure Real (K : PySem.W.Frag) (mg : Str → Option Value) (gi : List (Str × Int)) (fns : List Str) (tk : Nat) (i : Nat) (d : Df) (f : Addr) (fd : FuncData) (ps : List Str) : Prop where
  mg : mg d.key = some (.ref f)
  len : ps.length = d.ps
  bind : Binds K fd ps []
  ex : ∃ x qual params body scope, FunD K x qual params body scope [] [] f fd ∧ FnScope d.N ps scope ∧ (i = tk → takeB d.N scope body = true ∧ d.N.length = 6 ∧ d.ps = 2) ∧ (i ≠ tk → chkSs gi fns d.N scope d.body body = true)
section
variable {P : Program} {w : World} {K : PySem.W.Frag} {mg : Str → Option Value} {base : Heap} {gi : List (Str × Int)} {tk : Nat} {ds : List Df}
theorem reps_get : ∀ {ds : List D} {vs : List V} {a0 : Addr} {G : Hp}, Reps a0 G ds vs → ∀ (i : Nat) (d : D), ds[i]? = some d → ∃ v, vs[i]? = some v ∧ Rep a0 G d v := fun {ds vs a0 G} r i d h => r.get h
theorem start_re {a0 c0 : Addr} {F G H : Hp} {args : List D} {t : DS} {vs : List V} {N : List Str} (h1 : Sub F H) (h2 : Sub G H) (h3 : ∀ b o, F b = some o → G b = none) (h4 : StOk a0 c0 F G H t) (r : Reps a0 G args vs) : RE a0 c0 F G (startE N.length args) (L2.start N vs) H t := by
  have no : ∀ (i : Nat) (es : List D), (startE N.length args)[i]? ≠ some (some (Sl.own es)) := by
    intro i es h
    unfold startE at h
    rw [List.getElem?_append] at h
    split at h
    · rw [List.getElem?_map] at h
      obtain ⟨x, _, e⟩ := Option.map_eq_some_iff.mp h
      cases e
    · rw [List.getElem?_replicate] at h
      split at h <;> cases h
  refine ⟨h1, h2, h3, h4, fun i d e => ?_, fun i es e => (no i es e).elim, fun i j ds es a e1 => (no i ds e1).elim, ?_⟩
  · unfold startE at e
    rw [List.getElem?_append] at e
    split at e
    · rename_i hi
      rw [List.getElem?_map] at e
      obtain ⟨x, e1, e2⟩ := Option.map_eq_some_iff.mp e
      cases e2
      obtain ⟨v, g1, g2⟩ := reps_get r i d e1
      refine ⟨v, ?_, g2⟩
      unfold L2.start
      rw [List.getElem?_append_left (by rw [List.length_map]; exact (List.getElem?_eq_some_iff.mp g1).1), List.getElem?_map, g1]
      rfl
    · rw [List.getElem?_replicate] at e
      split at e <;> cases e
  · unfold startE L2.start
    rw [List.length_append, List.length_append, List.length_map, List.length_map, List.length_replicate, List.length_replicate, r.len]
theorem endF_ok {a0 c0 : Addr} {F G : Hp} {r : R Fl} {d : D} {t : DS} {Q : VK} (e : endF r = some (d, t))
    (q : ∀ v H' G', Sub G G' → Sub F H' → Sub G' H' → (∀ b o, F b = some o → G' b = none) → StOk a0 c0 F G' H' t → Rep a0 G' d v → Q v H') : ∃ fl, r = some (fl, t) ∧ FlOk a0 c0 F G t { nx := fun _ H' => Q .non H', rt := Q } fl := by
  unfold endF at e
  split at e
  · cases e
    exact ⟨_, rfl, q⟩
  · cases e
    exact ⟨_, rfl, fun σ' H' G' s R => q .non H' G' s R.fh R.gh R.fg R.st rfl⟩
  · cases e
theorem cx_ok {k : Nat} {call : Nat → List D → DS → R D} {N : List Str} {qual : Str} {scope : Scope} {f : Addr} {cdv : Value} {A : Around} {outer : List Env} {s : Shared} {H : Hp} {E : XK} (nd : N.Nodup) (hr : Room k (A.deeper (envOfC qual scope s.heap.objs.size f cdv)))
    (hgi : ∀ (j : Nat) (x : Str) (i : Int), gi[j]? = some (x, i) → ∃ t, mg x = some (.int i t)) (hbn : ∀ f : B, mg f.nm = none) (hrg : mg "range" = none) {fns : List Str}
    (hfn : ∀ (f : Nat) (x : Str), fns[f]? = some x → ∃ a fd ps, mg x = some (.ref a) ∧ PySem.W.keepIn K (.ref a) = true ∧ Binds K fd ps [] ∧ FnOk P w K mg base CX0 k a fd ps (spF call f)) :
    Ok call gi fns k (cxOf CX0 P w K mg base N qual scope f cdv A outer s H E).nox :=
  ⟨rfl, nd, hr, PassesOwn.never, hgi, hbn, hrg, hfn⟩
theorem run_ok (hgi : ∀ (j : Nat) (x : Str) (i : Int), gi[j]? = some (x, i) → ∃ t, mg x = some (.int i t)) (hbn : ∀ f : B, mg f.nm = none) (hrg : mg "range" = none)
    (hd : ∀ (i : Nat) (d : Df), ds[i]? = some d → ∃ f fd ps, Real K mg gi (ds.map Df.key) tk i d f fd ps) :
    ∀ (n i : Nat) (d : Df), ds[i]? = some d → ∃ a fd ps, mg d.key = some (.ref a) ∧ PySem.W.keepIn K (.ref a) = true ∧ Binds K fd ps [] ∧ FnOk P w K mg base CX0 n a fd ps (spF (run tk ds n) i) := by
  intro n
  induction n with
  | zero =>
    intro i d h
    obtain ⟨f, fd, ps, r⟩ := hd i d h
    obtain ⟨x, qual, params, body, scope, F, _⟩ := r.ex
    have no : ∀ vs H Q E, ¬ spF (run tk ds 0) i vs H Q E := by
      rintro vs H Q E ⟨a0, c0, F, G, args, t, d, t', _, _, _, _, _, e, _⟩
      cases e
    exact ⟨f, fd, ps, r.mg, F.kp, r.bind, fun vs H Q E h => (no _ _ _ _ h).elim, fun A outer s H args us vs Q E _ _ _ _ h => (no _ _ _ _ h).elim⟩
  | succ n ih =>
    intro i d h
    obtain ⟨f, fd, ps, r⟩ := hd i d h
    obtain ⟨x, qual, params, body, scope, FD, S, ht, hb⟩ := r.ex
    have hfn : ∀ (f : Nat) (x : Str), (ds.map Df.key)[f]? = some x → ∃ a fd ps, mg x = some (.ref a) ∧ PySem.W.keepIn K (.ref a) = true ∧ Binds K fd ps [] ∧ FnOk P w K mg base CX0 n a fd ps (spF (run tk ds n) f) := by
      intro f x hx
      rw [List.getElem?_map] at hx
      obtain ⟨d, hd', rfl⟩ := Option.map_eq_some_iff.mp hx
      exact ih f d hd'
    refine ⟨f, fd, ps, r.mg, FD.kp, r.bind, ?_⟩
    have lenA : ∀ {args : List D} {t : DS} {d' : D} {t' : DS}, run tk ds (n + 1) i args t = some (d', t') → args.length = d.ps := by
      intro args t d' t' e
      unfold run at e
      split at e
      · rename_i hi
        have hi : i = tk := by simpa using hi
        have := (ht hi).2.2
        unfold takeA at e
        split at e
        · rw [this]; rfl
        · cases e
      · rw [h] at e
        simp only at e
        split at e
        · rename_i hl; simpa using hl
        · cases e
    refine FD.ok (CX := CX0) S (fun vs H Q E hs => ?_) (fun cdv A outer s H vs Q E hr hs => ?_)
    · obtain ⟨a0, c0, F, G, args, t, d', t', _, _, _, _, rp, e, _⟩ := hs
      rw [rp.len, lenA e, r.len]
    · obtain ⟨a0, c0, F, G, args, t, d', t', h1, h2, h3, h4, rp, e, q⟩ := hs
      by_cases hi : i = tk
      · obtain ⟨hB, hN, hp⟩ := ht hi
        have O := cx_ok (P := P) (w := w) (K := K) (base := base) (cdv := cdv) (f := f) (outer := outer) (H := H) (E := E) (gi := []) (fns := []) (call := run tk ds n) S.nd hr (by intro j x i h; cases h) hbn hrg (by intro j x h; cases h)
        refine ⟨tTake K, PSs.nox (take_walk O (fun _ => rfl) hB), ?_⟩
        unfold run at e
        rw [hi, beq_self_eq_true] at e
        replace e : takeA args t = some (d', t') := e
        unfold takeA at e
        split at e
        · rename_i m
          obtain ⟨v1, r1, rfl, g1, g2⟩ := rp.inv_cons
          obtain ⟨v2, r2, rfl, g3, g4⟩ := g2.inv_cons
          obtain rfl : r2 = [] := g4
          obtain rfl : v1 = .ref a0 := g1
          obtain rfl : v2 = .int m := g3
          refine take_run hN h4 e fun i H' ed k st => ?_
          subst ed
          have kf : ∀ {F : Hp}, Sub F H → F a0 = none → F c0 = none → Sub F H' := fun s f0 fc b o hb => k b o (s b o hb) (by rintro rfl; rw [f0] at hb; cases hb) (by rintro rfl; rw [fc] at hb; cases hb)
          exact q (.int i) H' G Sub.refl (kf h1 h4.f0 h4.fc) (kf h2 h4.g0 h4.gc) h3 st rfl
        · cases e
      · have O := cx_ok (P := P) (w := w) (K := K) (base := base) (cdv := cdv) (f := f) (outer := outer) (H := H) (E := E) (gi := gi) (call := run tk ds n) S.nd hr hgi hbn hrg hfn
        refine ⟨tS (run tk ds n) d.W d.body, PSs.nox ((sndS O (fun _ => rfl) S.kind d.body).all body (hb hi)), ?_⟩
        unfold run at e
        rw [beq_false_of_ne hi, h] at e
        simp only at e
        split at e
        · obtain ⟨fl, e2, hq⟩ := endF_ok e q
          exact ⟨a0, c0, F, G, _, t, fl, t', start_re h1 h2 h3 h4 rp, e2, hq⟩
        · cases e
end
end Ev

/-! Ev16: the law's def. -/
namespace Ev
open PySem PySem.Spec PyProof.Rows L2
section
variable {P : Program} {w : World} {K : PySem.W.Frag} {mg : Str → Option Value} {base : Heap} {gi : List (Str × Int)} {tk : Nat} {ds : List Df}
theorem state_ok {x qual : Str} {params : Arguments} {body : List Stmt} {scope : Scope} {f : Addr} {fd : FuncData} {N ps : List Str} {k : Nat} (F : FunD K x qual params body scope [] [] f fd) (S : FnScope N ps scope) (hp : ps.length = 1) (hN : N.length = 3) (hb : stateB N scope body = true)
    (hbn : ∀ f : B, mg f.nm = none) (hrg : mg "range" = none) : FnOk P w K mg base CX0 (k + 1) f fd ps (spState K) := by
  refine F.ok (CX := CX0) S (fun vs H Q E hs => ?_) (fun cdv A outer s H vs Q E hr hs => ⟨tState K, PSs.nox ?_, state_run hN hs⟩)
  · obtain ⟨a, ns, rfl, _⟩ := hs
    rw [hp]; rfl
  · have O := cx_ok (P := P) (w := w) (K := K) (base := base) (cdv := cdv) (f := f) (outer := outer) (H := H) (E := E) (gi := []) (fns := []) (call := fun _ _ _ => none) S.nd hr (by intro j x i h; cases h) hbn hrg (by intro j x h; cases h)
    exact state_walk O (fun _ => rfl) hb
def lawB (gi : List (Str × Int)) (fns : List Str) (N : List Str) (sc : Scope) (s : S) : List Stmt → Bool
  | .Assign [.Name x1 p1] (.Call (.Name x2 p2) [x0] [] p3) p4 :: rest => decide (x2 = ("_law_state" : Str)) && (gloB sc x2 && (chkT N sc (.nm 1) (.Name x1 p1) && (chk [] [] N (.var 0) sc false x0 && chkSs gi fns N sc s rest)))
  | _ => false
def spLaw (K : PySem.W.Frag) : Sp := fun vs H Q _ => ∃ (a : Addr) (ns : List Int), vs = [V.ref a] ∧ SqL K H a (ns.map V.int) ∧ ns.length ≤ 1000 ∧ ∀ H', Q (.bl true) H'
def lawE (n : Nat) : EnvD := none :: some (.val .st) :: List.replicate n none
theorem law_ok {x qual : Str} {params : Arguments} {body : List Stmt} {scope : Scope} {f : Addr} {fd : FuncData} {N ps : List Str} {m n W : Nat} {s : S} (F : FunD K x qual params body scope [] [] f fd) (S : FnScope N ps scope) (hp : ps.length = 1) (hN : N.length = m + 2)
    (hb : lawB gi (ds.map Df.key) N scope s body = true)
    (hgi : ∀ (j : Nat) (x : Str) (i : Int), gi[j]? = some (x, i) → ∃ t, mg x = some (.int i t)) (hbn : ∀ f : B, mg f.nm = none) (hrg : mg "range" = none)
    (hst : ∃ a fd ps, mg "_law_state" = some (.ref a) ∧ PySem.W.keepIn K (.ref a) = true ∧ Binds K fd ps [] ∧ FnOk P w K mg base CX0 n a fd ps (spState K))
    (hd : ∀ (i : Nat) (d : Df), ds[i]? = some d → ∃ f fd ps, Real K mg gi (ds.map Df.key) tk i d f fd ps)
    (hlaw : ∀ t : DS, t.n = 0 → t.cells ≠ [] → ∃ t', exec (run tk ds n) W s (lawE m) t = some (.rt (.bl true), t')) : FnOk P w K mg base CX0 (n + 1) f fd ps (spLaw K) := by
  have hrun := run_ok (P := P) (w := w) (base := base) hgi hbn hrg hd n
  have hfn : ∀ (f : Nat) (x : Str), (ds.map Df.key)[f]? = some x → ∃ a fd ps, mg x = some (.ref a) ∧ PySem.W.keepIn K (.ref a) = true ∧ Binds K fd ps [] ∧ FnOk P w K mg base CX0 n a fd ps (spF (run tk ds n) f) := by
    intro f x hx
    rw [List.getElem?_map] at hx
    obtain ⟨d, hd', rfl⟩ := Option.map_eq_some_iff.mp hx
    exact hrun f d hd'
  refine F.ok (CX := CX0) S (fun vs H Q E hs => ?_) (fun cdv A outer s' H vs Q E hr hs => ?_)
  · obtain ⟨a, ns, rfl, _⟩ := hs
    rw [hp]; rfl
  · obtain ⟨a, ns, rfl, hS, hl, q⟩ := hs
    have O := cx_ok (P := P) (w := w) (K := K) (base := base) (cdv := cdv) (f := f) (outer := outer) (H := H) (E := E) (gi := gi) (call := run tk ds n) S.nd hr hgi hbn hrg hfn
    have O0 := cx_ok (P := P) (w := w) (K := K) (base := base) (cdv := cdv) (f := f) (outer := outer) (H := H) (E := E) (gi := []) (fns := []) (call := run tk ds n) S.nd hr (by intro j x i h; cases h) hbn hrg (by intro j x h; cases h)
    obtain ⟨a1, fd1, ps1, hm1, hk1, hb1, hF1⟩ := hst
    unfold lawB at hb
    split at hb
    · rename_i x1 p1 x2 p2 x0 p3 p4 rest
      simp only [Bool.and_eq_true, decide_eq_true_eq] at hb
      obtain ⟨rfl, g1, g2, g3, g4⟩ := hb
      simp only [chkT, Bool.and_eq_true, decide_eq_true_eq] at g2
      have hx := sto_ok (X := (cxOf CX0 P w K mg base N qual scope f cdv A outer s' H E).nox) (fun _ => rfl) g2.2
      obtain ⟨e1, e2⟩ := glo_ok g1
      have c0 := chk_ok _ _ _ _ _ _ _ g3
      have first := ps_asg (pos := p4) (pe_call (p := p2) (pos := p3) (dvs := []) (E := E0) hF1 O.hr e1 hm1 hk1 hb1 .nil pass0 (pa_cons ((rd_ok O0 _).1 _ _ c0) pa_nil (star_ok (chk_plain c0))) e2 (star_ok (chk_plain c0)) (by rw [star_nil]; rfl))
        (pg_name (pos := p1) O.nd g2.1 (hx.imp id (·.1)) (hx.symm.imp (·.2) id)) rfl rfl rfl
      refine ⟨_, PSs.nox (pss_cons first ((sndS (W := W) O (fun _ => rfl) S.kind s).all rest g4)), ?_⟩
      have hs : L2.start N [.ref a] = some (.ref a) :: List.replicate (m + 1) none := by
        unfold L2.start
        rw [hN]
        rfl
      rw [hs]
      refine ⟨_, rfl, a, ns, rfl, hS, hl, fun a0 c0 t H' hsub hn hc st => ?_⟩
      obtain ⟨t', he⟩ := hlaw t hn hc
      refine ⟨a0, c0, fun _ => none, fun _ => none, lawE m, t, _, t', ⟨fun b o h => (by cases h), fun b o h => (by cases h), fun b o h => (by cases h), st, fun i d e => ?_, fun i es e => ?_, fun i j ds es b e1 => ?_, ?_⟩, he, fun v H2 G2 s2 s3 s4 fg st2 r => ?_⟩
      · unfold lawE at e
        match i with
        | 0 => cases e
        | 1 => cases e; exact ⟨.ref a0, rfl, rfl⟩
        | i + 2 =>
          simp only [List.getElem?_cons_succ, List.getElem?_replicate] at e
          split at e <;> cases e
      · unfold lawE at e
        match i with
        | 0 => cases e
        | 1 => cases e
        | i + 2 =>
          simp only [List.getElem?_cons_succ, List.getElem?_replicate] at e
          split at e <;> cases e
      · unfold lawE at e1
        match i with
        | 0 => cases e1
        | 1 => cases e1
        | i + 2 =>
          simp only [List.getElem?_cons_succ, List.getElem?_replicate] at e1
          split at e1 <;> cases e1
      · simp [lawE]
      · obtain rfl : v = .bl true := r
        exact q H2
    · cases hb
end
end Ev

/-! Ev17: a program's defs, by one check. -/
namespace Ev
open PySem PySem.Spec PyProof.Rows L2
theorem bind_gen {x qual : Str} {as : List Arg} {body : List Stmt} {scope : Scope} {kV doc pm : Value} {an : Option Addr} {cdv ct : Value} {us : List Value} (hn : (as.map (·.arg)).Nodup) (hl : us.length = as.length) :
    bindArgs (PySem.W.fnOf x qual ⟨[], as, none, [], [], none, []⟩ body scope .none kV doc pm an cdv ct) ⟨us, []⟩ = pure ((as.map (·.arg)).zip us) := by
  have lk : ∀ (ns : List Str) (us : List Value), ns.Nodup → us.length = ns.length → (∀ n ∈ ns, ((ns.zip us).lookup n).isSome = true) ∧ ns.filterMap (fun n => ((ns.zip us).lookup n).map (n, ·)) = ns.zip us := by
    intro ns
    induction ns with
    | nil => intro us _ _; exact ⟨by simp, rfl⟩
    | cons a ns ih =>
      intro us hn hl
      cases us with
      | nil => cases hl
      | cons u us =>
        obtain ⟨h1, h2⟩ := ih us (List.nodup_cons.mp hn).2 (by simpa using hl)
        have hne : ∀ n ∈ ns, (n == a) = false := fun n hm => beq_false_of_ne (by rintro rfl; exact (List.nodup_cons.mp hn).1 hm)
        have hl2 : ∀ n ∈ ns, ((a :: ns).zip (u :: us)).lookup n = (ns.zip us).lookup n := fun n hm => by
          show ((a, u) :: ns.zip us).lookup n = _
          rw [List.lookup_cons, hne n hm]
        have h0 : ((a :: ns).zip (u :: us)).lookup a = some u := by
          show ((a, u) :: ns.zip us).lookup a = _
          rw [List.lookup_cons, beq_self_eq_true]
        refine ⟨fun n hm => ?_, ?_⟩
        · rcases List.mem_cons.mp hm with rfl | hm
          · rw [h0]; rfl
          · rw [hl2 n hm]; exact h1 n hm
        · rw [List.filterMap_cons, h0]
          have cg : ∀ (ms : List Str) (f g : Str → Option (Str × Value)), (∀ n ∈ ms, f n = g n) → ms.filterMap f = ms.filterMap g := by
            intro ms
            induction ms with
            | nil => intros; rfl
            | cons m ms ih => intro f g h; rw [List.filterMap_cons, List.filterMap_cons, h m List.mem_cons_self, ih f g fun n hm => h n (List.mem_cons_of_mem _ hm)]
          have : ns.filterMap (fun n => (((a :: ns).zip (u :: us)).lookup n).map (n, ·)) = ns.zip us := by
            rw [← h2]
            exact cg _ _ _ fun n hm => by rw [hl2 n hm]
          simp only [Option.map_some]
          rw [this]
          rfl
  obtain ⟨h1, h2⟩ := lk (as.map (·.arg)) us hn (by simpa using hl)
  have h3 : ((as.map (·.arg)).filter fun n => (((as.map (·.arg)).zip us).lookup n).isNone) = [] := by
    apply List.filter_eq_nil_iff.mpr
    intro n hm
    have := h1 n hm
    cases e : ((as.map (·.arg)).zip us).lookup n with
    | none => rw [e] at this; cases this
    | some => simp
  have e1 : (as.map (·.arg)).take as.length = as.map (·.arg) := List.take_of_length_le (by simp)
  have e2 : (as.map (·.arg)).drop as.length = [] := List.drop_of_length_le (by simp)
  unfold bindArgs
  simp only [PySem.W.fnOf, List.map_nil, List.nil_append, List.append_nil, List.length_map, List.forIn_nil, pure_bind, hl, seqItems?, notAStandIn, Nat.lt_irrefl, decide_false, Bool.false_and, Option.getD_none, List.length_nil, List.drop_nil, Nat.sub_zero, gt_iff_lt,
    e1, e2, h3, h2, List.zip_nil_left, List.isEmpty_nil, Bool.not_true, Bool.false_eq_true, if_false, Array.toList_empty, List.toList_toArray]
def parB (a : Arguments) (ps : List Str) : Bool := match a with
  | ⟨[], as, none, [], [], none, []⟩ => decide (as.map (·.arg) = ps) && decide ps.Nodup
  | _ => false
theorem par_ok {a : Arguments} {ps : List Str} (h : parB a ps = true) {x qual : Str} {body : List Stmt} {scope : Scope} {kV doc pm : Value} {an : Option Addr} {cdv ct : Value} {us : List Value} (hl : us.length = ps.length) :
    bindArgs (PySem.W.fnOf x qual a body scope .none kV doc pm an cdv ct) ⟨us, []⟩ = pure (ps.zip us) := by
  unfold parB at h
  split at h
  · rw [Bool.and_eq_true, decide_eq_true_eq, decide_eq_true_eq] at h
    obtain ⟨rfl, h2⟩ := h
    exact bind_gen h2 (by rw [hl, List.length_map])
  · cases h
def scopeB (N ps : List Str) (sc : Scope) : Bool := (match sc.kind with | .function => true | _ => false) && (!sc.isCoroutine && (!sc.isGenerator && (decide N.Nodup && (decide (N.take ps.length = ps) && ((ps.all fun x => isK sc x .local || isK sc x .cell) && (sc.names.all fun y => match y.2 with
  | .free => false
  | _ => true))))))
theorem scope_ok {N ps : List Str} {sc : Scope} (h : scopeB N ps sc = true) : FnScope N ps sc := by
  unfold scopeB at h
  simp only [Bool.and_eq_true, Bool.not_eq_true', decide_eq_true_eq, List.all_eq_true, Bool.or_eq_true] at h
  obtain ⟨h1, h2, h3, h4, h5, h6, h7⟩ := h
  refine ⟨?_, h2, h3, h4, h5, fun x hx => (h6 x hx).imp isK_ok isK_ok, fun y hy e => ?_⟩
  · split at h1
    · assumption
    · cases h1
  · have := h7 y hy
    rw [e] at this
    cases this
/-- one def's data against the head's -/
def defB (gi : List (Str × Int)) (fns : List Str) (fa : List He.Fa) (tk i : Nat) (d : Df) (e : He.DefD) : Bool :=
  decide (e.at_ = (d.key, none)) && (e.dfl.isEmpty && (e.kwd.isEmpty && ((fa.any fun | .glo x => decide (x = d.key) | _ => false) && (parB e.params (d.N.take d.ps) && (decide ((d.N.take d.ps).length = d.ps) && (scopeB d.N (d.N.take d.ps) e.scope &&
    (match i == tk with
    | true => takeB d.N e.scope e.body && decide (d.N.length = 6 ∧ d.ps = 2)
    | false => chkSs gi fns d.N e.scope d.body e.body)))))))
def defsB (gi : List (Str × Int)) (fns : List Str) (fa : List He.Fa) (tk : Nat) : Nat → List Df → List He.DefD → Bool
  | _, [], _ => true
  | i, d :: ds, e :: es => defB gi fns fa tk i d e && defsB gi fns fa tk (i + 1) ds es
  | _, _, _ => false
section
variable {K : PySem.W.Frag} {h : Heap} {mg : Str → Option Value} {fa : List He.Fa} {fn : List He.DefD} {gi : List (Str × Int)} {tk : Nat}
theorem fact_of (c : He.SaysD fa fn K) {f : He.Fa} (hf : f ∈ fa) : f.ok K = true := by
  obtain ⟨i, hi⟩ := List.getElem?_of_mem hf
  exact c.fact i hi
theorem defsB_get {fns : List Str} : ∀ {ds : List Df} {es : List He.DefD} {i : Nat}, defsB gi fns fa tk i ds es = true → ∀ (j : Nat) (d : Df), ds[j]? = some d → ∃ e, es[j]? = some e ∧ defB gi fns fa tk (i + j) d e = true
  | [], _, _, _, j, d, hd => by cases hd
  | d :: ds, [], _, h, _, _, _ => by cases h
  | d :: ds, e :: es, i, h, j, d', hd => by
    unfold defsB at h
    rw [Bool.and_eq_true] at h
    cases j with
    | zero => cases hd; exact ⟨e, rfl, h.1⟩
    | succ j =>
      obtain ⟨e', h1, h2⟩ := defsB_get h.2 j d' hd
      exact ⟨e', h1, by rw [← h2]; congr 1; omega⟩
theorem glo_any {x : Str} (h : (fa.any fun | .glo y => decide (y = x) | _ => false) = true) : He.Fa.glo x ∈ fa := by
  obtain ⟨f, hf, e⟩ := List.any_eq_true.mp h
  split at e
  · rw [decide_eq_true_eq] at e; subst e; exact hf
  · cases e
theorem def_real (X : K.In h) (G : h.Ns mainGlobals mg) (c : He.SaysD fa fn K) {fns : List Str} {i : Nat} {d : Df} {e : He.DefD} (he : fn[i]? = some e) (hB : defB gi fns fa tk i d e = true) : ∃ f fd ps, Real K mg gi fns tk i d f fd ps := by
  unfold defB at hB
  simp only [Bool.and_eq_true, decide_eq_true_eq] at hB
  obtain ⟨h1, h2, h3, h4, h5, h6, h7, h8⟩ := hB
  obtain ⟨fd, F⟩ := c.def_ i he
  have e1 : e.dvs K = [] := by unfold He.DefD.dvs; rw [List.isEmpty_iff.mp h2]; rfl
  have e2 : e.kws K = [] := by unfold He.DefD.kws; rw [List.isEmpty_iff.mp h3]; rfl
  rw [e1, e2] at F
  have hm : mg d.key = some (.ref (He.fAd K e.at_)) := by
    rw [h1]
    exact He.glo_ok X G (fact_of c (glo_any h4))
  refine ⟨_, fd, d.N.take d.ps, hm, h6, FunD.bindsN F fun _ _ _ _ _ _ us hl => par_ok h5 hl, e.name, e.qual, e.params, e.body, e.scope, F, scope_ok h7, fun hi => ?_, fun hi => ?_⟩
  · rw [hi, beq_self_eq_true] at h8
    replace h8 : (takeB d.N e.scope e.body && decide (d.N.length = 6 ∧ d.ps = 2)) = true := h8
    rw [Bool.and_eq_true, decide_eq_true_eq] at h8
    exact h8
  · rw [beq_false_of_ne hi] at h8
    exact h8
/-- the whole program's check -/
def progB (fa : List He.Fa) (fn : List He.DefD) (gi : List (Str × Int)) (tk : Nat) (ds : List Df) (stN lawN : List Str) (lawS : S) : Bool :=
  defsB gi (ds.map Df.key) fa tk 0 ds fn && (match fn[ds.length]?, fn[ds.length + 1]? with
    | some e, some l => decide (e.at_ = (("_law_state" : Str), none)) && (e.dfl.isEmpty && (e.kwd.isEmpty && ((fa.any fun | .glo x => decide (x = ("_law_state" : Str)) | _ => false) && (parB e.params (stN.take 1) && (decide (stN.length = 3) && (scopeB stN (stN.take 1) e.scope && (stateB stN e.scope e.body &&
      (decide (l.at_ = (("law" : Str), none)) && (l.dfl.isEmpty && (l.kwd.isEmpty && ((fa.any fun | .glo x => decide (x = ("law" : Str)) | _ => false) && (parB l.params (lawN.take 1) && (decide (2 ≤ lawN.length) && (scopeB lawN (lawN.take 1) l.scope && lawB gi (ds.map Df.key) lawN l.scope lawS l.body))))))))))))))
    | _, _ => false) && ((gi.all fun p => fa.any fun | .int x i => decide (x = p.1 ∧ i = p.2) | _ => false) && ([B.len, .sum, .max, .min, .abs, .int, .tuple, .list, .all, .any].all fun b => fa.any fun | .free x => decide (x = b.nm) | _ => false) && (fa.any fun | .free x => decide (x = ("range" : Str)) | _ => false))
theorem prog_ok {P : Program} {w : World} {ds : List Df} {stN lawN : List Str} {lawS : S} {f : Addr} {n W : Nat} (hB : progB fa fn gi tk ds stN lawN lawS = true) (X : K.In h) (G : h.Ns mainGlobals mg) (hf : mg ("law" : Str) = some (.ref f)) (c : He.SaysD fa fn K) (hn : 0 < n)
    (hlaw : ∀ t : DS, t.n = 0 → t.cells ≠ [] → ∃ t', exec (run tk ds n) W lawS (lawE (lawN.length - 2)) t = some (.rt (.bl true), t')) {x : Str} (hx : lawN.take 1 = [x]) :
    ∃ fd : FuncData, (∀ (s : Shared) (v : Value), BindsTo s fd ⟨[v], []⟩ [(x, v)]) ∧ ∀ base : Heap, K.In base → base.Ns mainGlobals mg → FnOk P w K mg base CX0 (n + 1) f fd [x] (spLaw K) := by
  unfold progB at hB
  simp only [Bool.and_eq_true] at hB
  obtain ⟨⟨hds, hsl⟩, ⟨hg, hb⟩, hr⟩ := hB
  have hgi : ∀ (j : Nat) (x : Str) (i : Int), gi[j]? = some (x, i) → ∃ t, mg x = some (.int i t) := by
    intro j x i hj
    have := List.all_eq_true.mp hg _ (List.mem_of_getElem? hj)
    obtain ⟨g, hg2, e⟩ := List.any_eq_true.mp this
    split at e
    · rw [decide_eq_true_eq] at e
      obtain ⟨rfl, rfl⟩ := e
      exact He.int_ok X G (fact_of c hg2)
    · cases e
  have free_any : ∀ {x : Str}, (fa.any fun | .free y => decide (y = x) | _ => false) = true → mg x = none := by
    intro x h
    obtain ⟨g, hg2, e⟩ := List.any_eq_true.mp h
    split at e
    · rw [decide_eq_true_eq] at e; subst e; exact He.free_ok X G (fact_of c hg2)
    · cases e
  have hbn : ∀ b : B, mg b.nm = none := fun b => free_any (List.all_eq_true.mp hb b (by cases b <;> simp))
  have hrg := free_any hr
  have hd : ∀ (i : Nat) (d : Df), ds[i]? = some d → ∃ f fd ps, Real K mg gi (ds.map Df.key) tk i d f fd ps := by
    intro i d hi
    obtain ⟨e, he, hB⟩ := defsB_get hds i d hi
    rw [Nat.zero_add] at hB
    exact def_real X G c he hB
  split at hsl
  · rename_i e l he hl
    simp only [Bool.and_eq_true, decide_eq_true_eq] at hsl
    obtain ⟨a1, a2, a3, a4, a5, a6, a7, a8, b1, b2, b3, b4, b5, b6, b7, b8⟩ := hsl
    obtain ⟨fs, Fs⟩ := c.def_ _ he
    obtain ⟨fl, Fl⟩ := c.def_ _ hl
    have e1 : e.dvs K = [] := by unfold He.DefD.dvs; rw [List.isEmpty_iff.mp a2]; rfl
    have e2 : e.kws K = [] := by unfold He.DefD.kws; rw [List.isEmpty_iff.mp a3]; rfl
    have l1 : l.dvs K = [] := by unfold He.DefD.dvs; rw [List.isEmpty_iff.mp b2]; rfl
    have l2 : l.kws K = [] := by unfold He.DefD.kws; rw [List.isEmpty_iff.mp b3]; rfl
    rw [e1, e2] at Fs
    rw [l1, l2] at Fl
    have ms : mg ("_law_state" : Str) = some (.ref (He.fAd K e.at_)) := by
      rw [a1]; exact He.glo_ok X G (fact_of c (glo_any a4))
    have ml : mg ("law" : Str) = some (.ref (He.fAd K l.at_)) := by
      rw [b1]; exact He.glo_ok X G (fact_of c (glo_any b4))
    rw [hf] at ml
    cases ml
    have bs := FunD.bindsN Fs fun _ _ _ _ _ _ us hl => par_ok a5 hl
    have bl := FunD.bindsA Fl fun _ _ _ _ _ _ us hl => par_ok b5 hl
    rw [hx] at bl
    refine ⟨fl, fun s v => bl s [v] rfl, fun base _ _ => ?_⟩
    have st := state_ok (P := P) (w := w) (mg := mg) (base := base) (k := n - 1) Fs (scope_ok a7) (by rw [List.length_take]; omega) a6 a8 hbn hrg
    have sn : n - 1 + 1 = n := by omega
    rw [sn] at st
    have S := scope_ok b7
    rw [hx] at S
    exact law_ok (P := P) (w := w) (m := lawN.length - 2) (W := W) Fl S rfl (by omega) b8 hgi hbn hrg ⟨_, fs, _, ms, Fs.kp, bs, st⟩ hd hlaw
  · cases hsl
end
end Ev

/-! Ev18: the evaluator once more, without draws, made for the kernel: compiled once a syntax node. -/
namespace Ev
open PySem (Str CmpOp)
noncomputable section
abbrev PC := Nat → List D → Option D
abbrev FE := PC → Bool → EnvD → Option D
abbrev FEs := PC → Bool → EnvD → Option (List D)
/-- a slot -/
def lk (ρ : EnvD) : Nat → Option Sl := List.rec (motive := fun _ => Nat → Option Sl) (fun _ => none) (fun x _ ih i => Nat.rec (motive := fun _ => Option Sl) x (fun n _ => ih n) i) ρ
def stt (ρ : EnvD) (v : Option Sl) : Nat → EnvD := List.rec (motive := fun _ => Nat → EnvD) (fun _ => []) (fun x r ih i => Nat.rec (motive := fun _ => EnvD) (v :: r) (fun n _ => x :: ih n) i) ρ
def flen (ds : List D) : Nat := List.rec (motive := fun _ => Nat) 0 (fun _ _ ih => Nat.add ih (nat_lit 1)) ds
theorem lk_eq : ∀ (ρ : EnvD) (i : Nat) (s : Sl), lk ρ i = some s → ρ[i]? = some (some s)
  | [], i, s, h => by cases h
  | x :: r, 0, s, h => by
    have h : x = some s := h
    rw [h]; rfl
  | x :: r, i + 1, s, h => lk_eq r i s h
theorem stt_eq : ∀ (ρ : EnvD) (v : Option Sl) (i : Nat), stt ρ v i = ρ.set i v
  | [], v, i => by cases i <;> rfl
  | x :: r, v, 0 => rfl
  | x :: r, v, i + 1 => congrArg (x :: ·) (stt_eq r v i)
theorem flen_eq : ∀ ds : List D, flen ds = ds.length
  | [] => rfl
  | d :: ds => by
    show Nat.add (flen ds) 1 = _
    rw [flen_eq ds]; rfl
def fleB (ds : List D) : Bool := Nat.ble (flen ds) line
theorem fleB_eq {ds : List D} (h : fleB ds = true) : ds.length ≤ line := by
  unfold fleB at h
  rw [flen_eq] at h
  exact Nat.le_of_ble_eq_true h
def fsetAll : List Nat → List D → EnvD → Option EnvD := List.rec (motive := fun _ => List D → EnvD → Option EnvD) (fun ds ρ => match ds with | [] => some ρ | _ :: _ => none)
  (fun i _ ih ds ρ => match ds with | [] => none | d :: ds => ih ds (stt ρ (some (.val d)) i))
def fasgT (tg : T) (d : D) (ρ : EnvD) : Option EnvD := match tg with
  | .nm i => some (stt ρ (some (.val d)) i)
  | .tp is => match d with
    | .tup ds => fsetAll is ds ρ
    | _ => none
theorem fsetAll_eq : ∀ (is : List Nat) (ds : List D) (ρ : EnvD), fsetAll is ds ρ = setAll is ds ρ
  | [], [], ρ => rfl
  | [], _ :: _, ρ => rfl
  | _ :: _, [], ρ => rfl
  | i :: is, d :: ds, ρ => by
    show fsetAll is ds (stt ρ (some (.val d)) i) = setAll is ds (ρ.set i (some (.val d)))
    rw [stt_eq, fsetAll_eq is ds]
theorem fasgT_eq (tg : T) (d : D) (ρ : EnvD) : fasgT tg d ρ = asgT tg d ρ := by
  cases tg with
  | nm i => show some _ = some _; rw [stt_eq]
  | tp is =>
    cases d with
    | tup ds => exact fsetAll_eq is ds ρ
    | _ => rfl
def fwipe (ρ : EnvD) (vs : List Nat) : EnvD := List.rec (motive := fun _ => EnvD) ρ (fun v _ ih => stt ih none v) vs
theorem fwipe_eq (ρ : EnvD) : ∀ vs : List Nat, fwipe ρ vs = wipeE ρ vs
  | [] => rfl
  | v :: vs => by
    show stt (fwipe ρ vs) none v = (wipeE ρ vs).set v none
    rw [stt_eq, fwipe_eq ρ vs]
def fnoOwn (ρ : EnvD) (vs : List Nat) : Bool := List.rec (motive := fun _ => Bool) true (fun v _ ih => match lk ρ v with
  | some (.own _) => false
  | _ => ih) vs
theorem lk_none : ∀ (ρ : EnvD) (i : Nat), (ρ[i]? = none ∧ lk ρ i = none) ∨ ρ[i]? = some (lk ρ i)
  | [], i => .inl ⟨rfl, rfl⟩
  | x :: r, 0 => .inr rfl
  | x :: r, i + 1 => lk_none r i
theorem fnoOwn_eq (ρ : EnvD) : ∀ vs : List Nat, fnoOwn ρ vs = noOwn ρ vs
  | [] => rfl
  | v :: vs => by
    have ih := fnoOwn_eq ρ vs
    show (match lk ρ v with | some (.own _) => false | _ => fnoOwn ρ vs) = ((match ρ[v]? with | some (some (.own _)) => false | _ => true) && noOwn ρ vs)
    rw [ih]
    rcases lk_none ρ v with ⟨h, h2⟩ | h
    · rw [h, h2]; rfl
    · rw [h]
      cases e : lk ρ v with
      | none => rfl
      | some s => cases s <;> rfl
/-! ### numbers -/
def fadd (i j : Int) : Int := match i, j with
  | .ofNat m, .ofNat n => .ofNat (Nat.add m n)
  | i, j => i + j
def fsub (i j : Int) : Int := match i, j with
  | .ofNat m, .ofNat n => Bool.rec (motive := fun _ => Int) (Int.negSucc (Nat.sub (Nat.sub n m) 1)) (Int.ofNat (Nat.sub m n)) (Nat.ble n m)
  | i, j => i - j
def fmul (i j : Int) : Int := match i, j with
  | .ofNat m, .ofNat n => .ofNat (Nat.mul m n)
  | i, j => i * j
def flt (i j : Int) : Bool := match i, j with
  | .ofNat m, .ofNat n => Nat.ble (Nat.add m 1) n
  | .negSucc _, .ofNat _ => true
  | .ofNat _, .negSucc _ => false
  | .negSucc m, .negSucc n => Nat.ble (Nat.add n 1) m
def feqI (i j : Int) : Bool := match i, j with
  | .ofNat m, .ofNat n => Nat.beq m n
  | .negSucc _, .ofNat _ => false
  | .ofNat _, .negSucc _ => false
  | .negSucc m, .negSucc n => Nat.beq m n
theorem fadd_eq (i j : Int) : fadd i j = i + j := by cases i <;> cases j <;> rfl
theorem fmul_eq (i j : Int) : fmul i j = i * j := by cases i <;> cases j <;> rfl
theorem fsub_eq (i j : Int) : fsub i j = i - j := by
  cases i <;> cases j <;> try rfl
  rename_i m n
  show Bool.rec (motive := fun _ => Int) (Int.negSucc (Nat.sub (Nat.sub n m) 1)) (Int.ofNat (Nat.sub m n)) (Nat.ble n m) = _
  cases h : Nat.ble n m with
  | true =>
    have := Nat.le_of_ble_eq_true h
    show Int.ofNat (m - n) = Int.ofNat m - Int.ofNat n
    simp only [Int.ofNat_eq_natCast]; omega
  | false =>
    have : ¬ n ≤ m := fun q => by rw [Nat.ble_eq_true_of_le q] at h; cases h
    show Int.negSucc (n - m - 1) = Int.ofNat m - Int.ofNat n
    simp only [Int.ofNat_eq_natCast, Int.negSucc_eq]; omega
theorem ble_dec (m n : Nat) : Nat.ble m n = decide (m ≤ n) := by
  cases h : Nat.ble m n with
  | true => exact (decide_eq_true (Nat.le_of_ble_eq_true h)).symm
  | false => exact (decide_eq_false fun q => by rw [Nat.ble_eq_true_of_le q] at h; cases h).symm
theorem flt_eq (i j : Int) : flt i j = decide (i < j) := by
  cases i <;> cases j <;> rename_i m n
  · show Nat.ble (m + 1) n = _
    rw [ble_dec]; congr 1; simp only [Int.ofNat_eq_natCast, eq_iff_iff]; omega
  · exact (decide_eq_false (by simp only [Int.ofNat_eq_natCast, Int.negSucc_eq]; omega)).symm
  · exact (decide_eq_true (by simp only [Int.ofNat_eq_natCast, Int.negSucc_eq]; omega)).symm
  · show Nat.ble (n + 1) m = _
    rw [ble_dec]; congr 1; simp only [Int.negSucc_eq, eq_iff_iff]; omega
theorem feqI_eq (i j : Int) : feqI i j = (i == j) := by
  have hb : ∀ m n : Nat, Nat.beq m n = decide (m = n) := fun m n => by
    cases h : Nat.beq m n with
    | true => exact (decide_eq_true (Nat.eq_of_beq_eq_true h)).symm
    | false => exact (decide_eq_false fun q => by subst q; rw [Nat.beq_refl] at h; cases h).symm
  have he : (i == j) = decide (i = j) := by
    cases h : (i == j) with
    | true => exact (decide_eq_true (eq_of_beq h)).symm
    | false => exact (decide_eq_false fun q => by subst q; rw [beq_self_eq_true] at h; cases h).symm
  rw [he]
  cases i <;> cases j <;> rename_i m n
  · show Nat.beq m n = _
    rw [hb]; congr 1; simp only [Int.ofNat_eq_natCast, eq_iff_iff]; omega
  · exact (decide_eq_false (by simp)).symm
  · exact (decide_eq_false (by simp)).symm
  · show Nat.beq m n = _
    rw [hb]; congr 1; simp
/-! ### equality -/
/-- a plain value, no deeper than n -/
def ffit : Nat → D → Bool := Nat.rec (motive := fun _ => D → Bool) (fun d => match d with
    | .st => false
    | .str x => PySem.PyData.strOk x
    | .tup _ => false
    | .lst _ => false
    | _ => true)
  (fun _ ih d => match d with
    | .st => false
    | .str x => PySem.PyData.strOk x
    | .tup xs => List.rec (motive := fun _ => Bool) true (fun x _ r => match ih x with | true => r | false => false) xs
    | .lst xs => List.rec (motive := fun _ => Bool) true (fun x _ r => match ih x with | true => r | false => false) xs
    | _ => true)
theorem ffits_eq (n : Nat) (h : ∀ d, ffit n d = D.fit n d) : ∀ xs : List D, (List.rec (motive := fun _ => Bool) true (fun x _ r => match ffit n x with | true => r | false => false) xs : Bool) = D.fits n xs
  | [] => rfl
  | x :: xs => by
    show (match ffit n x with | true => _ | false => false) = (D.fit n x && D.fits n xs)
    rw [h x, ← ffits_eq n h xs]
    cases D.fit n x <;> rfl
theorem ffit_eq : ∀ (n : Nat) (d : D), ffit n d = D.fit n d
  | 0, d => by cases d <;> rfl
  | n + 1, d => by
    cases d with
    | tup xs => exact ffits_eq n (ffit_eq n) xs
    | lst xs => exact ffits_eq n (ffit_eq n) xs
    | _ => rfl
/-- equal, by a bound of the depth -/
def feqv : Nat → D → D → Bool := Nat.rec (motive := fun _ => D → D → Bool) (fun _ _ => false)
  (fun _ ih a b => match a, b with
    | .int i, .int j => feqI i j
    | .tup xs, .tup ys => List.rec (motive := fun _ => List D → Bool) (fun ys => match ys with | [] => true | _ :: _ => false) (fun x _ r ys => match ys with | [] => false | y :: ys => match ih x y with | true => r ys | false => false) xs ys
    | .lst xs, .lst ys => List.rec (motive := fun _ => List D → Bool) (fun ys => match ys with | [] => true | _ :: _ => false) (fun x _ r ys => match ys with | [] => false | y :: ys => match ih x y with | true => r ys | false => false) xs ys
    | a, b => D.eqv a b)
theorem feqvs_eq (n : Nat) (h : ∀ a b, D.fit n a = true → feqv (n + 1) a b = D.eqv a b) : ∀ (xs ys : List D), D.fits n xs = true →
    (List.rec (motive := fun _ => List D → Bool) (fun ys => match ys with | [] => true | _ :: _ => false) (fun x _ r ys => match ys with | [] => false | y :: ys => match feqv (n + 1) x y with | true => r ys | false => false) xs ys : Bool) = D.eqvs xs ys
  | [], [], _ => rfl
  | [], _ :: _, _ => rfl
  | _ :: _, [], _ => rfl
  | x :: xs, y :: ys, hf => by
    have hf2 : D.fit n x = true ∧ D.fits n xs = true := Bool.and_eq_true_iff.mp hf
    show (match feqv (n + 1) x y with | true => _ | false => false) = (D.eqv x y && D.eqvs xs ys)
    rw [h x y hf2.1, ← feqvs_eq n h xs ys hf2.2]
    cases D.eqv x y <;> rfl
theorem feqv_eq : ∀ (n : Nat) (a b : D), D.fit n a = true → feqv (n + 1) a b = D.eqv a b
  | 0, a, b, hf => by
    cases a <;> cases b <;> first | rfl | exact feqI_eq _ _ | cases hf
  | n + 1, a, b, hf => by
    cases a <;> cases b <;> first
      | rfl
      | exact feqI_eq _ _
      | exact feqvs_eq n (feqv_eq n) _ _ hf
def feq (a b : D) : Option Bool := match ffit 60 a with
  | true => match ffit 60 b with
    | true => some (feqv 61 a b)
    | false => none
  | false => none
theorem feq_ok {a b : D} {k : Bool} (h : feq a b = some k) : eqF a b = some k := by
  unfold feq at h
  split at h
  · rename_i h1
    split at h
    · rename_i h2
      rw [ffit_eq] at h1 h2
      unfold eqF
      rw [h1, h2, ← feqv_eq 60 a b h1]
      exact h
    · cases h
  · cases h
/-! ### lists -/
def fapp (xs ys : List D) : List D := List.rec (motive := fun _ => List D) ys (fun x _ r => x :: r) xs
theorem fapp_eq : ∀ xs ys : List D, fapp xs ys = xs ++ ys
  | [], ys => rfl
  | x :: xs, ys => congrArg (x :: ·) (fapp_eq xs ys)
def fnth (xs : List D) : Nat → Option D := List.rec (motive := fun _ => Nat → Option D) (fun _ => none) (fun x _ ih i => Nat.rec (motive := fun _ => Option D) (some x) (fun n _ => ih n) i) xs
theorem fnth_eq : ∀ (xs : List D) (i : Nat), fnth xs i = xs[i]?
  | [], i => rfl
  | x :: xs, 0 => rfl
  | x :: xs, i + 1 => fnth_eq xs i
def fatI (xs : List D) (i : Int) : Option D := match i with
  | .ofNat n => fnth xs n
  | .negSucc n => match Nat.ble (Nat.add n 1) (flen xs) with
    | true => fnth xs (Nat.sub (flen xs) (Nat.add n 1))
    | false => none
theorem fatI_eq (xs : List D) (i : Int) : fatI xs i = L2.atI xs i := by
  unfold L2.atI L2.ixN
  cases i with
  | ofNat n =>
    show fnth xs n = _
    rw [fnth_eq, if_pos (by simp)]
    by_cases h : n < xs.length
    · rw [if_pos (by simpa using h)]; rfl
    · rw [if_neg (by simpa using h)]
      exact List.getElem?_eq_none (by omega)
  | negSucc n =>
    rw [if_neg (by simp)]
    show (match Nat.ble (Nat.add n 1) (flen xs) with | true => fnth xs (Nat.sub (flen xs) (Nat.add n 1)) | false => none) = _
    rw [flen_eq]
    cases h : Nat.ble (Nat.add n 1) xs.length with
    | true =>
      have h1 : n + 1 ≤ xs.length := Nat.le_of_ble_eq_true h
      rw [if_pos (by simp only [Int.negSucc_eq]; omega)]
      show fnth xs (xs.length - (n + 1)) = _
      rw [fnth_eq]
      have : (Int.negSucc n + (xs.length : Int)).toNat = xs.length - (n + 1) := by simp only [Int.negSucc_eq]; omega
      rw [this]; rfl
    | false =>
      have h1 : ¬ n + 1 ≤ xs.length := fun q => by
        have : Nat.ble (Nat.add n 1) xs.length = true := Nat.ble_eq_true_of_le q
        rw [this] at h; cases h
      rw [if_neg (by simp only [Int.negSucc_eq]; omega)]
      rfl
def fdrop (xs : List D) : Nat → List D := List.rec (motive := fun _ => Nat → List D) (fun _ => []) (fun x r ih i => Nat.rec (motive := fun _ => List D) (x :: r) (fun n _ => ih n) i) xs
def ftake (xs : List D) : Nat → List D := List.rec (motive := fun _ => Nat → List D) (fun _ => []) (fun x r ih i => Nat.rec (motive := fun _ => List D) [] (fun n _ => x :: ih n) i) xs
theorem fdrop_eq : ∀ (xs : List D) (i : Nat), fdrop xs i = xs.drop i
  | [], i => by cases i <;> rfl
  | x :: xs, 0 => rfl
  | x :: xs, i + 1 => fdrop_eq xs i
theorem ftake_eq : ∀ (xs : List D) (i : Nat), ftake xs i = xs.take i
  | [], i => by cases i <;> rfl
  | x :: xs, 0 => rfl
  | x :: xs, i + 1 => congrArg (x :: ·) (ftake_eq xs i)
def fsIx (n d : Nat) (o : Option Int) : Nat := match o with
  | none => d
  | some (.ofNat v) => match Nat.ble v n with | true => v | false => n
  | some (.negSucc v) => Nat.sub n (Nat.add v 1)
theorem fsIx_eq (n d : Nat) (o : Option Int) : fsIx n d o = HT.sIx n d o := by
  unfold HT.sIx
  cases o with
  | none => rfl
  | some i =>
    cases i with
    | ofNat v =>
      show (match Nat.ble v n with | true => v | false => n) = if (Int.ofNat v) < 0 then _ else _
      rw [if_neg (by simp)]
      show _ = min v n
      rw [ble_dec]
      by_cases h : v ≤ n
      · rw [decide_eq_true h, Nat.min_eq_left h]
      · rw [decide_eq_false h, Nat.min_eq_right (by omega)]
    | negSucc v =>
      show n - (v + 1) = if (Int.negSucc v) < 0 then _ else _
      rw [if_pos (by simp only [Int.negSucc_eq]; omega)]
      simp only [Int.negSucc_eq]; omega
def fcut (xs : List D) (lo hi : Option Int) : List D := ftake (fdrop xs (fsIx (flen xs) 0 lo)) (Nat.sub (fsIx (flen xs) (flen xs) hi) (fsIx (flen xs) 0 lo))
theorem fcut_eq (xs : List D) (lo hi : Option Int) : fcut xs lo hi = cut xs lo hi := by
  unfold fcut cut
  rw [ftake_eq, fdrop_eq, fsIx_eq, fsIx_eq, flen_eq]
  rfl
end
end Ev

/-! Ev19: the evaluator for the kernel. -/
namespace Ev
open PySem (Str CmpOp)
noncomputable section
abbrev bnd {α β : Type} (o : Option α) (k : α → Option β) : Option β := Option.rec (motive := fun _ => Option β) none k o
theorem bnd_some {α β : Type} {o : Option α} {k : α → Option β} {b : β} (h : bnd o k = some b) : ∃ a, o = some a ∧ k a = some b := by
  cases o with
  | none => cases h
  | some a => exact ⟨a, rfl, h⟩
def fsmall (i : Int) : Bool := match i with
  | .ofNat n => Nat.ble (Nat.add n 1) 18446744073709551616
  | .negSucc n => Nat.ble (Nat.add n 2) 18446744073709551616
theorem fsmall_ok {i : Int} (h : fsmall i = true) : small i = true := by
  unfold small
  cases i with
  | ofNat n =>
    have := Nat.le_of_ble_eq_true h
    have h2 : n + 1 ≤ 18446744073709551616 := this
    simp only [Int.ofNat_eq_natCast, Bool.and_eq_true, decide_eq_true_eq]; omega
  | negSucc n =>
    have h2 : n + 2 ≤ 18446744073709551616 := Nat.le_of_ble_eq_true h
    simp only [Int.negSucc_eq, Bool.and_eq_true, decide_eq_true_eq]; omega
def fAdd (x y : D) : Option D := match x with
  | .int i => (match y with
    | .int j => some (.int (fadd i j))
    | _ => none)
  | .tup xs => (match y with
    | .tup ys => (match Nat.ble (Nat.add (flen xs) (flen ys)) line with
      | true => some (.tup (fapp xs ys))
      | false => none)
    | _ => none)
  | .lst xs => (match y with
    | .lst ys => (match Nat.ble (Nat.add (flen xs) (flen ys)) line with
      | true => some (.lst (fapp xs ys))
      | false => none)
    | _ => none)
  | _ => none
def fSub (x y : D) : Option D := match x with
  | .int i => (match y with
    | .int j => some (.int (fsub i j))
    | _ => none)
  | _ => none
def fMul (x y : D) : Option D := match x with
  | .int i => (match y with
    | .int j => (match fsmall i with
      | true => some (.int (fmul i j))
      | false => match fsmall j with
        | true => some (.int (fmul i j))
        | false => none)
    | _ => none)
  | x => binF .mul x y
def fDiv (x y : D) : Option D := match x with
  | .int (.ofNat i) => (match y with
    | .int (.ofNat j) => (match Nat.ble 1 j with
      | true => (match Nat.ble (Nat.add j 1) 1073741824 with
        | true => some (.int (.ofNat (Nat.div i j)))
        | false => none)
      | false => none)
    | _ => none)
  | x => binF .fdiv x y
def fMod (x y : D) : Option D := match x with
  | .int (.ofNat i) => (match y with
    | .int (.ofNat j) => (match Nat.ble 1 j with
      | true => some (.int (.ofNat (Nat.mod i j)))
      | false => none)
    | _ => none)
  | x => binF .mod x y
def fbin (op : BOp) (x y : D) : Option D := BOp.rec (motive := fun _ => Option D) (fAdd x y) (fSub x y) (fMul x y) (fDiv x y) (fMod x y) (binF .and x y) (binF .xor x y) (binF .shr x y) (binF .shl x y) op
theorem fbin_ok {op : BOp} {x y d : D} (h : fbin op x y = some d) : binF op x y = some d := by
  have le : ∀ {m n : Nat}, Nat.ble m n = true → m ≤ n := fun h => Nat.le_of_ble_eq_true h
  have app : ∀ {xs ys : List D}, Nat.ble (Nat.add (flen xs) (flen ys)) line = true → xs.length + ys.length ≤ line := fun hl => by
    have := le hl
    rw [flen_eq, flen_eq] at this
    exact this
  cases op with
  | add =>
    replace h : fAdd x y = some d := h
    unfold fAdd at h
    split at h
    · split at h
      · rw [fadd_eq] at h; exact h
      · cases h
    · rename_i xs
      split at h
      · rename_i ys
        split at h
        · rename_i hl
          show (if xs.length + ys.length ≤ line then some (D.tup (xs ++ ys)) else none) = _
          rw [if_pos (app hl), ← fapp_eq]; exact h
        · cases h
      · cases h
    · rename_i xs
      split at h
      · rename_i ys
        split at h
        · rename_i hl
          show (if xs.length + ys.length ≤ line then some (D.lst (xs ++ ys)) else none) = _
          rw [if_pos (app hl), ← fapp_eq]; exact h
        · cases h
      · cases h
    · cases h
  | sub =>
    replace h : fSub x y = some d := h
    unfold fSub at h
    split at h
    · split at h
      · rw [fsub_eq] at h; exact h
      · cases h
    · cases h
  | mul =>
    replace h : fMul x y = some d := h
    unfold fMul at h
    split at h
    · rename_i i
      split at h
      · rename_i j
        show (if (small i || small j) = true then some (D.int (i * j)) else none) = _
        split at h
        · rename_i hs
          rw [fsmall_ok hs, Bool.true_or, if_pos rfl, ← fmul_eq]; exact h
        · split at h
          · rename_i hs
            rw [fsmall_ok hs, Bool.or_true, if_pos rfl, ← fmul_eq]; exact h
          · cases h
      · cases h
    · exact h
  | fdiv =>
    replace h : fDiv x y = some d := h
    unfold fDiv at h
    split at h
    · rename_i i
      split at h
      · rename_i j
        split at h
        · rename_i h1
          split at h
          · rename_i h2
            have h1 := le h1
            have h2 : j + 1 ≤ 1073741824 := le h2
            show (if (0 : Int) < Int.ofNat j ∧ Int.ofNat j < 1073741824 then some (D.int (Int.ofNat i / Int.ofNat j)) else none) = _
            rw [if_pos (by simp only [Int.ofNat_eq_natCast]; omega)]
            exact h
          · cases h
        · cases h
      · cases h
    · exact h
  | mod =>
    replace h : fMod x y = some d := h
    unfold fMod at h
    split at h
    · rename_i i
      split at h
      · rename_i j
        split at h
        · rename_i h1
          have h1 := le h1
          show (if (0 : Int) < Int.ofNat j then some (D.int (Int.ofNat i % Int.ofNat j)) else none) = _
          rw [if_pos (by simp only [Int.ofNat_eq_natCast]; omega)]
          exact h
        · cases h
      · cases h
    · exact h
  | _ => exact h
/-! ### equality, once over -/
def ffitL (n : Nat) (xs : List D) : Bool := List.rec (motive := fun _ => Bool) true (fun x _ r => Bool.rec (motive := fun _ => Bool) false r (ffit n x)) xs
theorem ffitL_eq (n : Nat) : ∀ xs : List D, ffitL n xs = D.fits n xs
  | [] => rfl
  | x :: xs => by
    show Bool.rec (motive := fun _ => Bool) false (ffitL n xs) (ffit n x) = (D.fit n x && D.fits n xs)
    rw [ffit_eq, ffitL_eq n xs]
    cases D.fit n x <;> rfl
def fgen (n : Nat) (a b : D) : Option Bool := match ffit n a with
  | true => (match ffit n b with
    | true => some (D.eqv a b)
    | false => none)
  | false => none
def fqs (n : Nat) (ih : D → D → Option Bool) (xs : List D) : List D → Option Bool := List.rec (motive := fun _ => List D → Option Bool) (fun ys => match ys with
    | [] => some true
    | y :: ys => (match ffitL n (y :: ys) with
      | true => some false
      | false => none))
  (fun x r rec ys => match ys with
    | [] => (match ffitL n (x :: r) with
      | true => some false
      | false => none)
    | y :: ys => bnd (ih x y) fun k => match k with
      | true => rec ys
      | false => (match ffitL n r with
        | true => (match ffitL n ys with
          | true => some false
          | false => none)
        | false => none)) xs
def fq : Nat → D → D → Option Bool := Nat.rec (motive := fun _ => D → D → Option Bool) (fun _ _ => none) (fun n ih a b => match a with
  | .int i => (match b with
    | .int j => some (feqI i j)
    | b => fgen (Nat.succ n) (.int i) b)
  | .tup xs => (match b with
    | .tup ys => fqs n ih xs ys
    | b => fgen (Nat.succ n) (.tup xs) b)
  | .lst xs => (match b with
    | .lst ys => fqs n ih xs ys
    | b => fgen (Nat.succ n) (.lst xs) b)
  | a => fgen (Nat.succ n) a b)
theorem fgen_ok {n : Nat} {a b : D} {k : Bool} (h : fgen n a b = some k) : D.fit n a = true ∧ D.fit n b = true ∧ D.eqv a b = k := by
  unfold fgen at h
  split at h
  · rename_i h1
    split at h
    · rename_i h2
      cases h
      exact ⟨by rw [← ffit_eq]; exact h1, by rw [← ffit_eq]; exact h2, rfl⟩
    · cases h
  · cases h
theorem fqs_ok {n : Nat} {ih : D → D → Option Bool} (hi : ∀ a b k, ih a b = some k → D.fit n a = true ∧ D.fit n b = true ∧ D.eqv a b = k) : ∀ (xs ys : List D) (k : Bool), fqs n ih xs ys = some k → D.fits n xs = true ∧ D.fits n ys = true ∧ D.eqvs xs ys = k
  | [], [], k, h => by cases h; exact ⟨rfl, rfl, rfl⟩
  | [], y :: ys, k, h => by
    replace h : (match ffitL n (y :: ys) with | true => some false | false => none) = some k := h
    split at h
    · rename_i h1; rw [ffitL_eq] at h1; cases h; exact ⟨rfl, h1, rfl⟩
    · cases h
  | x :: xs, [], k, h => by
    replace h : (match ffitL n (x :: xs) with | true => some false | false => none) = some k := h
    split at h
    · rename_i h1; rw [ffitL_eq] at h1; cases h; exact ⟨h1, rfl, rfl⟩
    · cases h
  | x :: xs, y :: ys, k, h => by
    replace h : bnd (ih x y) (fun k => match k with
      | true => fqs n ih xs ys
      | false => (match ffitL n xs with
        | true => (match ffitL n ys with
          | true => some false
          | false => none)
        | false => none)) = some k := h
    obtain ⟨k', h1, h2⟩ := bnd_some h
    obtain ⟨g1, g2, g3⟩ := hi _ _ _ h1
    cases k' with
    | true =>
      obtain ⟨q1, q2, q3⟩ := fqs_ok hi xs ys k h2
      refine ⟨?_, ?_, ?_⟩
      · show (D.fit n x && D.fits n xs) = true; rw [g1, q1]; rfl
      · show (D.fit n y && D.fits n ys) = true; rw [g2, q2]; rfl
      · show (D.eqv x y && D.eqvs xs ys) = k; rw [g3, q3]; rfl
    | false =>
      simp only at h2
      split at h2
      · rename_i e1
        split at h2
        · rename_i e2
          cases h2
          rw [ffitL_eq] at e1 e2
          refine ⟨?_, ?_, ?_⟩
          · show (D.fit n x && D.fits n xs) = true; rw [g1, e1]; rfl
          · show (D.fit n y && D.fits n ys) = true; rw [g2, e2]; rfl
          · show (D.eqv x y && D.eqvs xs ys) = false; rw [g3]; rfl
        · cases h2
      · cases h2
theorem fq_ok : ∀ (n : Nat) (a b : D) (k : Bool), fq n a b = some k → D.fit n a = true ∧ D.fit n b = true ∧ D.eqv a b = k
  | 0, a, b, k, h => by cases h
  | n + 1, a, b, k, h => by
    replace h : (match (generalizing := false) a with
      | .int i => (match (generalizing := false) b with
        | .int j => some (feqI i j)
        | b => fgen (Nat.succ n) (.int i) b)
      | .tup xs => (match (generalizing := false) b with
        | .tup ys => fqs n (fq n) xs ys
        | b => fgen (Nat.succ n) (.tup xs) b)
      | .lst xs => (match (generalizing := false) b with
        | .lst ys => fqs n (fq n) xs ys
        | b => fgen (Nat.succ n) (.lst xs) b)
      | a => fgen (Nat.succ n) a b) = some k := h
    split at h
    · split at h
      · cases h; exact ⟨rfl, rfl, (feqI_eq _ _).symm⟩
      · exact fgen_ok h
    · split at h
      · exact fqs_ok (fq_ok n) _ _ _ h
      · exact fgen_ok h
    · split at h
      · exact fqs_ok (fq_ok n) _ _ _ h
      · exact fgen_ok h
    · exact fgen_ok h
def feq2 (a b : D) : Option Bool := fq 60 a b
theorem feq2_ok {a b : D} {k : Bool} (h : feq2 a b = some k) : eqF a b = some k := by
  obtain ⟨g1, g2, g3⟩ := fq_ok _ _ _ _ h
  unfold eqF
  rw [g1, g2, g3]; rfl
def fany (a : D) (xs : List D) : Option Bool := List.rec (motive := fun _ => Option Bool) (some false) (fun z _ r => bnd (fq 60 z a) fun k => bnd r fun q => match k with
  | true => some true
  | false => some q) xs
theorem fany_ok {a : D} : ∀ {xs : List D} {k : Bool}, fany a xs = some k → D.fits 60 xs = true ∧ (xs.any fun z => z.eqv a) = k
  | [], k, h => by cases h; exact ⟨rfl, rfl⟩
  | z :: xs, k, h => by
    replace h : (bnd (fq 60 z a) fun k => bnd (fany a xs) fun q => match k with | true => some true | false => some q) = some k := h
    obtain ⟨k1, h1, h2⟩ := bnd_some h
    obtain ⟨k2, h3, h4⟩ := bnd_some h2
    obtain ⟨g1, g2⟩ := fany_ok h3
    obtain ⟨e1, e2, e3⟩ := fq_ok _ _ _ _ h1
    refine ⟨?_, ?_⟩
    · show (D.fit 60 z && D.fits 60 xs) = true
      rw [e1, g1]; rfl
    · rw [List.any_cons, g2, e3]
      cases k1 with
      | true => cases h4; rfl
      | false => cases h4; rfl
def finl (a : D) (xs : List D) : Option Bool := match ffit 60 a with
  | true => fany a xs
  | false => none
theorem finl_ok {a : D} {xs : List D} {k : Bool} (h : finl a xs = some k) : inF a xs = some k := by
  unfold finl at h
  split at h
  · rename_i ha
    obtain ⟨g1, g2⟩ := fany_ok h
    rw [ffit_eq] at ha
    unfold inF
    rw [ha, g1, g2]; rfl
  · cases h
def fLt (n : Bool) (x y : D) : Option Bool := match x with
  | .int i => (match y with
    | .int j => some (Bool.rec (motive := fun _ => Bool) (flt i j) (!flt i j) n)
    | _ => none)
  | _ => none
def fcmp (op : CmpOp) (x y : D) : Option Bool := match op with
  | .Lt => fLt false x y
  | .LtE => fLt true y x
  | .Gt => fLt false y x
  | .GtE => fLt true x y
  | .Eq => feq2 x y
  | .NotEq => bnd (feq2 x y) fun k => some !k
  | .In => (match y with
    | .lst xs => finl x xs
    | .tup xs => inTF x xs
    | _ => none)
  | .NotIn => (match y with
    | .lst xs => bnd (finl x xs) fun k => some !k
    | .tup xs => bnd (inTF x xs) fun k => some !k
    | _ => none)
  | op => cmpF op x y
theorem fLt_ok {n : Bool} {x y : D} {k : Bool} (h : fLt n x y = some k) : ∃ i j, x = .int i ∧ y = .int j ∧ k = (if n = true then decide (j ≤ i) else decide (i < j)) := by
  unfold fLt at h
  split at h
  · rename_i i
    split at h
    · rename_i j
      refine ⟨i, j, rfl, rfl, ?_⟩
      cases n with
      | false => cases h; rw [if_neg Bool.false_ne_true]; exact flt_eq i j
      | true =>
        cases h
        rw [if_pos rfl]
        show (!flt i j) = _
        rw [flt_eq]
        by_cases h : i < j
        · rw [decide_eq_true h, decide_eq_false (by omega)]; rfl
        · rw [decide_eq_false h, decide_eq_true (by omega)]; rfl
    · cases h
  · cases h
theorem fcmp_ok {op : CmpOp} {x y : D} {k : Bool} (h : fcmp op x y = some k) : cmpF op x y = some k := by
  unfold fcmp at h
  split at h
  · obtain ⟨i, j, rfl, rfl, e⟩ := fLt_ok h; rw [e]; rfl
  · obtain ⟨i, j, rfl, rfl, e⟩ := fLt_ok h; rw [e]; rfl
  · obtain ⟨i, j, rfl, rfl, e⟩ := fLt_ok h; rw [e]; rfl
  · obtain ⟨i, j, rfl, rfl, e⟩ := fLt_ok h; rw [e]; rfl
  · show eqF x y = _; exact feq2_ok h
  · obtain ⟨k', h1, h2⟩ := bnd_some h
    show (eqF x y).map not = _
    rw [feq2_ok h1]; exact h2
  · split at h
    · show inF _ _ = _; exact finl_ok h
    · exact h
    · cases h
  · split at h
    · obtain ⟨k', h1, h2⟩ := bnd_some h
      show (inF _ _).map not = _
      rw [finl_ok h1]; exact h2
    · obtain ⟨k', h1, h2⟩ := bnd_some h
      show (inTF _ _).map not = _
      rw [h1]; exact h2
    · cases h
  · exact h
def ftruth (d : D) : Option Bool := match d with
  | .bl b => some b
  | .int (.ofNat n) => some (Nat.ble 1 n)
  | .tup [] => some false
  | .lst [] => some false
  | .tup (_ :: _) => some true
  | .lst (_ :: _) => some true
  | d => truth d
theorem ftruth_eq (d : D) : ftruth d = truth d := by
  unfold ftruth
  split
  · rfl
  · rename_i n
    show some (Nat.ble 1 n) = some (Int.ofNat n != 0)
    rw [ble_dec]
    congr 1
    cases n with
    | zero => rfl
    | succ n =>
      rw [decide_eq_true (by omega)]
      have h : (Int.ofNat (n + 1) == 0) = false := beq_false_of_ne (by simp only [Int.ofNat_eq_natCast]; omega)
      exact (by rw [bne, h]; rfl)
  all_goals rfl
def fix (x y : D) : Option D := match x, y with
  | .tup xs, .int i => fatI xs i
  | .lst xs, .int i => fatI xs i
  | _, _ => none
theorem fix_eq (x y : D) : fix x y = ixF x y := by
  cases x <;> cases y <;> first | rfl | exact fatI_eq _ _
def fsl (x : D) (lo hi : Option Int) : Option D := match x with
  | .tup xs => some (.tup (fcut xs lo hi))
  | .lst xs => some (.lst (fcut xs lo hi))
  | _ => none
theorem fsl_eq (x : D) (lo hi : Option Int) : fsl x lo hi = slF x lo hi := by
  cases x with
  | tup xs => exact congrArg (fun l => some (D.tup l)) (fcut_eq xs lo hi)
  | lst xs => exact congrArg (fun l => some (D.lst l)) (fcut_eq xs lo hi)
  | _ => rfl
def fsum (xs : List D) : Option Int := List.rec (motive := fun _ => Option Int) (some (.ofNat 0)) (fun x _ r => match x with
  | .int i => bnd r fun s => some (fadd i s)
  | _ => none) xs
theorem fsum_ok : ∀ {xs : List D} {s : Int}, fsum xs = some s → (allI xs).map (fun l => l.sum) = some s
  | [], s, h => by cases h; rfl
  | .int i :: xs, s, h => by
    obtain ⟨r, h1, h2⟩ := bnd_some (show bnd (fsum xs) (fun s => some (fadd i s)) = some s from h)
    have ih := fsum_ok h1
    rw [fadd_eq] at h2
    cases h2
    simp only [allI]
    obtain ⟨l, e1, e2⟩ := Option.map_eq_some_iff.mp ih
    rw [e1, Option.map_some, Option.map_some, List.sum_cons, e2]
  | .non :: xs, s, h => by cases h
  | .bl _ :: xs, s, h => by cases h
  | .str _ :: xs, s, h => by cases h
  | .tup _ :: xs, s, h => by cases h
  | .lst _ :: xs, s, h => by cases h
  | .st :: xs, s, h => by cases h
def fblt (f : B) (ds : List D) : Option D := match f, ds with
  | .len, [.tup xs] => some (.int (.ofNat (flen xs)))
  | .len, [.lst xs] => some (.int (.ofNat (flen xs)))
  | .sum, [.lst xs] => bnd (fsum xs) fun s => some (.int s)
  | f, ds => bltF f ds
theorem fblt_ok {f : B} {ds : List D} {d : D} (h : fblt f ds = some d) : bltF f ds = some d := by
  unfold fblt at h
  split at h
  · rw [flen_eq] at h; exact h
  · rw [flen_eq] at h; exact h
  · rename_i xs
    obtain ⟨s, h1, h2⟩ := bnd_some h
    have := fsum_ok h1
    show (allI xs).map (fun l => D.int l.sum) = _
    obtain ⟨l, e1, e2⟩ := Option.map_eq_some_iff.mp this
    rw [e1, Option.map_some, e2]
    exact h2
  · exact h
def fin62 (i : Int) : Bool := match i with
  | .ofNat n => Nat.ble (Nat.add n 1) 4611686018427387904
  | .negSucc n => Nat.ble (Nat.add n 1) 4611686018427387904
theorem fin62_ok {i : Int} (h : fin62 i = true) : in62 i = true := by
  unfold in62
  cases i with
  | ofNat n =>
    have h2 : n + 1 ≤ 4611686018427387904 := Nat.le_of_ble_eq_true h
    simp only [Int.ofNat_eq_natCast, Bool.and_eq_true, decide_eq_true_eq]; omega
  | negSucc n =>
    have h2 : n + 1 ≤ 4611686018427387904 := Nat.le_of_ble_eq_true h
    simp only [Int.negSucc_eq, Bool.and_eq_true, decide_eq_true_eq]; omega
def frngL (n : Nat) (lo : Int) : List D := Nat.rec (motive := fun _ => Int → List D) (fun _ => []) (fun _ ih lo => .int lo :: ih (fadd lo 1)) n lo
theorem frngL_eq : ∀ (n : Nat) (lo : Int), frngL n lo = (List.range n).map fun (k : Nat) => D.int (lo + k)
  | 0, lo => rfl
  | n + 1, lo => by
    show D.int lo :: frngL n (fadd lo 1) = _
    rw [frngL_eq n, List.range_succ_eq_map, List.map_cons, List.map_map, fadd_eq]
    congr 1
    · simp
    · apply List.map_congr_left
      intro a _
      show D.int (lo + 1 + a) = D.int (lo + ((a + 1 : Nat) : Int))
      congr 1; omega
def fnat (i : Int) : Nat := match i with
  | .ofNat n => n
  | .negSucc _ => 0
def frng (ds : List D) : Option (List D) := match ds with
  | [.int j] => match fin62 j with
    | true => some (frngL (fnat j) 0)
    | false => none
  | [.int i, .int j] => match fin62 i with
    | true => match fin62 j with
      | true => some (frngL (fnat (fsub j i)) i)
      | false => none
    | false => none
  | ds => rngF ds
theorem fnat_eq (i : Int) : fnat i = i.toNat := by cases i <;> rfl
theorem frng_ok {ds l : List D} (h : frng ds = some l) : rngF ds = some l := by
  unfold frng at h
  split at h
  · rename_i j
    split at h
    · rename_i hj
      show (if in62 j = true then some (rngL 0 j) else none) = _
      rw [if_pos (fin62_ok hj)]
      rw [frngL_eq, fnat_eq] at h
      unfold rngL
      rw [Int.sub_zero]
      exact h
    · cases h
  · rename_i i j
    split at h
    · rename_i hi
      split at h
      · rename_i hj
        show (if (in62 i && in62 j) = true then some (rngL i j) else none) = _
        rw [fin62_ok hi, fin62_ok hj, Bool.and_self, if_pos rfl]
        rw [frngL_eq, fnat_eq, fsub_eq] at h
        exact h
      · cases h
    · cases h
  · exact h
end
end Ev

/-! Ev20: the evaluator for the kernel: forcing, primitives, the environment. -/
namespace Ev
open PySem (Str CmpOp)
noncomputable section
/-! ### forcing: values come in constructors -/
def nfN {β : Type} (n : Nat) (k : Nat → Option β) : Option β := Nat.rec (motive := fun _ => Option β) (k (nat_lit 0)) (fun m _ => k (Nat.succ m)) n
theorem nfN_eq {β : Type} (n : Nat) (k : Nat → Option β) : nfN n k = k n := by cases n <;> rfl
def nfI {β : Type} (i : Int) (k : Int → Option β) : Option β := Int.rec (motive := fun _ => Option β) (fun n => nfN n fun n => k (.ofNat n)) (fun n => nfN n fun n => k (.negSucc n)) i
theorem nfI_eq {β : Type} (i : Int) (k : Int → Option β) : nfI i k = k i := by
  cases i with
  | ofNat n => exact nfN_eq n fun n => k (.ofNat n)
  | negSucc n => exact nfN_eq n fun n => k (.negSucc n)
def fls {β : Type} (xs : List D) (k : List D → Option β) : Option β := List.rec (motive := fun _ => (List D → Option β) → Option β) (fun k => k []) (fun x _ ih k => ih fun r => k (x :: r)) xs k
theorem fls_eq {β : Type} : ∀ (xs : List D) (k : List D → Option β), fls xs k = k xs
  | [], k => rfl
  | x :: xs, k => by
    show fls xs (fun r => k (x :: r)) = _
    rw [fls_eq xs]
def fbl (k : Bool) : Option D := Bool.rec (motive := fun _ => Option D) (some (.bl false)) (some (.bl true)) k
theorem fbl_eq (k : Bool) : fbl k = some (.bl k) := by cases k <;> rfl
def nf1 (x : D) : Option D := (D.rec (motive_1 := fun _ => Option D) (motive_2 := fun _ => PUnit.{1}) (some x) (fun b => fbl b) (fun i => nfI i fun i => some (.int i)) (fun _ => some x) (fun xs _ => fls xs fun xs => some (.tup xs)) (fun xs _ => fls xs fun xs => some (.lst xs)) (some x) PUnit.unit (fun _ _ _ _ => PUnit.unit) x)
theorem nf1_eq (d : D) : nf1 d = some d := by
  cases d with
  | int i => exact nfI_eq i fun i => some (D.int i)
  | tup xs => exact fls_eq xs fun xs => some (D.tup xs)
  | lst xs => exact fls_eq xs fun xs => some (D.lst xs)
  | bl b => exact fbl_eq b
  | _ => rfl
def fstr (o : Option D) : Option D := Option.rec (motive := fun _ => Option D) none nf1 o
theorem fstr_eq (o : Option D) : fstr o = o := by
  cases o with
  | none => rfl
  | some d => exact nf1_eq d
/-! ### numbers -/
def iadd (i j : Int) : Int := (Int.rec (motive := fun _ => Int) (fun m => Int.rec (motive := fun _ => Int) (fun n => .ofNat (Nat.add m n)) (fun n => Int.subNatNat m (Nat.succ n)) j) (fun m => Int.rec (motive := fun _ => Int) (fun n => Int.subNatNat n (Nat.succ m)) (fun n => .negSucc (Nat.succ (Nat.add m n))) j) i)
theorem iadd_eq (i j : Int) : iadd i j = i + j := by cases i <;> cases j <;> rfl
def isub (i j : Int) : Int := (Int.rec (motive := fun _ => Int) (fun m => Int.rec (motive := fun _ => Int) (fun n => (Bool.rec (motive := fun _ => Int) (.negSucc (Nat.sub (Nat.sub n m) (nat_lit 1))) (.ofNat (Nat.sub m n)) (Nat.ble n m))) (fun n => Int.sub (.ofNat m) (.negSucc n)) j) (fun m => Int.rec (motive := fun _ => Int) (fun n => Int.sub (.negSucc m) (.ofNat n)) (fun n => Int.sub (.negSucc m) (.negSucc n)) j) i)
theorem isub_eq (i j : Int) : isub i j = i - j := by
  rw [← fsub_eq]
  cases i <;> cases j <;> rfl
def imul (i j : Int) : Int := (Int.rec (motive := fun _ => Int) (fun m => Int.rec (motive := fun _ => Int) (fun n => .ofNat (Nat.mul m n)) (fun n => Int.mul (.ofNat m) (.negSucc n)) j) (fun m => Int.rec (motive := fun _ => Int) (fun n => Int.mul (.negSucc m) (.ofNat n)) (fun n => Int.mul (.negSucc m) (.negSucc n)) j) i)
theorem imul_eq (i j : Int) : imul i j = i * j := by cases i <;> cases j <;> rfl
def ilt (i j : Int) : Bool := (Int.rec (motive := fun _ => Bool) (fun m => Int.rec (motive := fun _ => Bool) (fun n => Nat.ble (Nat.succ m) n) (fun n => false) j) (fun m => Int.rec (motive := fun _ => Bool) (fun n => true) (fun n => Nat.ble (Nat.succ n) m) j) i)
theorem ilt_eq (i j : Int) : ilt i j = flt i j := by cases i <;> cases j <;> rfl
def ieq (i j : Int) : Bool := (Int.rec (motive := fun _ => Bool) (fun m => Int.rec (motive := fun _ => Bool) (fun n => Nat.beq m n) (fun n => false) j) (fun m => Int.rec (motive := fun _ => Bool) (fun n => false) (fun n => Nat.beq m n) j) i)
theorem ieq_eq (i j : Int) : ieq i j = feqI i j := by cases i <;> cases j <;> rfl
def psmall (i : Int) : Bool := Int.rec (motive := fun _ => Bool) (fun n => Nat.ble (Nat.succ n) (nat_lit 18446744073709551616)) (fun n => Nat.ble (Nat.succ (Nat.succ n)) (nat_lit 18446744073709551616)) i
theorem psmall_eq (i : Int) : psmall i = fsmall i := by cases i <;> rfl
def pAdd (x y : D) : Option D := (D.rec (motive_1 := fun _ => Option D) (motive_2 := fun _ => PUnit.{1}) (none) (fun _ => none) (fun i => (D.rec (motive_1 := fun _ => Option D) (motive_2 := fun _ => PUnit.{1}) (none) (fun _ => none) (fun j => nfI (iadd i j) fun z => some (.int z)) (fun _ => none) (fun _ _ => none) (fun _ _ => none) (none) PUnit.unit (fun _ _ _ _ => PUnit.unit) y)) (fun _ => none) (fun xs _ => (D.rec (motive_1 := fun _ => Option D) (motive_2 := fun _ => PUnit.{1}) (none) (fun _ => none) (fun _ => none) (fun _ => none) (fun ys _ => (Bool.rec (motive := fun _ => Option D) none (fls (fapp xs ys) fun l => some (.tup l)) (Nat.ble (Nat.add (flen xs) (flen ys)) (nat_lit 16777216)))) (fun _ _ => none) (none) PUnit.unit (fun _ _ _ _ => PUnit.unit) y)) (fun xs _ => (D.rec (motive_1 := fun _ => Option D) (motive_2 := fun _ => PUnit.{1}) (none) (fun _ => none) (fun _ => none) (fun _ => none) (fun _ _ => none) (fun ys _ => (Bool.rec (motive := fun _ => Option D) none (fls (fapp xs ys) fun l => some (.lst l)) (Nat.ble (Nat.add (flen xs) (flen ys)) (nat_lit 16777216)))) (none) PUnit.unit (fun _ _ _ _ => PUnit.unit) y)) (none) PUnit.unit (fun _ _ _ _ => PUnit.unit) x)
theorem pAdd_eq (x y : D) : pAdd x y = fAdd x y := by
  have b : ∀ (c : Bool) (xs : List D) (f : List D → D), (Bool.rec (motive := fun _ => Option D) none (fls xs fun l => some (f l)) c) = match c with | true => some (f xs) | false => none := fun c xs f => by
    cases c with
    | true => exact fls_eq xs fun l => some (f l)
    | false => rfl
  cases x <;> cases y <;> try rfl
  · rename_i i j
    show nfI (iadd i j) (fun z => some (D.int z)) = some (D.int (fadd i j))
    rw [nfI_eq, iadd_eq, fadd_eq]
  · exact b _ _ D.tup
  · exact b _ _ D.lst
def pSub (x y : D) : Option D := (D.rec (motive_1 := fun _ => Option D) (motive_2 := fun _ => PUnit.{1}) (none) (fun _ => none) (fun i => (D.rec (motive_1 := fun _ => Option D) (motive_2 := fun _ => PUnit.{1}) (none) (fun _ => none) (fun j => nfI (isub i j) fun z => some (.int z)) (fun _ => none) (fun _ _ => none) (fun _ _ => none) (none) PUnit.unit (fun _ _ _ _ => PUnit.unit) y)) (fun _ => none) (fun _ _ => none) (fun _ _ => none) (none) PUnit.unit (fun _ _ _ _ => PUnit.unit) x)
theorem pSub_eq (x y : D) : pSub x y = fSub x y := by
  cases x <;> cases y <;> try rfl
  rename_i i j
  show nfI (isub i j) (fun z => some (D.int z)) = some (D.int (fsub i j))
  rw [nfI_eq, isub_eq, fsub_eq]
def pMul (x y : D) : Option D := (D.rec (motive_1 := fun _ => Option D) (motive_2 := fun _ => PUnit.{1}) (fstr (binF .mul x y)) (fun _ => fstr (binF .mul x y)) (fun i => (D.rec (motive_1 := fun _ => Option D) (motive_2 := fun _ => PUnit.{1}) (none) (fun _ => none) (fun j => (Bool.rec (motive := fun _ => Option D) (Bool.rec (motive := fun _ => Option D) none (nfI (imul i j) fun z => some (.int z)) (psmall j)) (nfI (imul i j) fun z => some (.int z)) (psmall i))) (fun _ => none) (fun _ _ => none) (fun _ _ => none) (none) PUnit.unit (fun _ _ _ _ => PUnit.unit) y)) (fun _ => fstr (binF .mul x y)) (fun _ _ => fstr (binF .mul x y)) (fun _ _ => fstr (binF .mul x y)) (fstr (binF .mul x y)) PUnit.unit (fun _ _ _ _ => PUnit.unit) x)
theorem pMul_eq (x y : D) : pMul x y = fMul x y := by
  cases x <;> cases y <;> first
    | rfl
    | exact fstr_eq _
    | skip
  rename_i i j
  show (Bool.rec (motive := fun _ => Option D) (Bool.rec (motive := fun _ => Option D) none (nfI (imul i j) fun z => some (D.int z)) (psmall j)) (nfI (imul i j) fun z => some (D.int z)) (psmall i)) = (match fsmall i with
      | true => some (D.int (fmul i j))
      | false => match fsmall j with
        | true => some (D.int (fmul i j))
        | false => none)
  rw [nfI_eq, imul_eq, fmul_eq, psmall_eq, psmall_eq]
  cases fsmall i <;> cases fsmall j <;> rfl
def pDiv (x y : D) : Option D := (D.rec (motive_1 := fun _ => Option D) (motive_2 := fun _ => PUnit.{1}) (fstr (binF .fdiv x y)) (fun _ => fstr (binF .fdiv x y)) (fun i => Int.rec (motive := fun _ => Option D) (fun m => (D.rec (motive_1 := fun _ => Option D) (motive_2 := fun _ => PUnit.{1}) (none) (fun _ => none) (fun j => Int.rec (motive := fun _ => Option D) (fun n => (Bool.rec (motive := fun _ => Option D) none (Bool.rec (motive := fun _ => Option D) none (nfN (Nat.div m n) fun z => some (.int (.ofNat z))) (Nat.ble (Nat.succ n) (nat_lit 1073741824))) (Nat.ble (nat_lit 1) n))) (fun _ => none) j) (fun _ => none) (fun _ _ => none) (fun _ _ => none) (none) PUnit.unit (fun _ _ _ _ => PUnit.unit) y)) (fun _ => fstr (binF .fdiv x y)) i) (fun _ => fstr (binF .fdiv x y)) (fun _ _ => fstr (binF .fdiv x y)) (fun _ _ => fstr (binF .fdiv x y)) (fstr (binF .fdiv x y)) PUnit.unit (fun _ _ _ _ => PUnit.unit) x)
theorem pDiv_eq (x y : D) : pDiv x y = fDiv x y := by
  cases x <;> first
    | (unfold pDiv; exact fstr_eq _)
    | skip
  rename_i i
  cases i with
  | negSucc m => unfold pDiv; exact fstr_eq _
  | ofNat m =>
    cases y <;> first
      | rfl
      | skip
    rename_i j
    cases j with
    | negSucc n => rfl
    | ofNat n =>
      show (Bool.rec (motive := fun _ => Option D) none (Bool.rec (motive := fun _ => Option D) none (nfN (Nat.div m n) fun z => some (D.int (.ofNat z))) (Nat.ble (Nat.succ n) 1073741824)) (Nat.ble 1 n)) = (match Nat.ble 1 n with
        | true => (match Nat.ble (Nat.add n 1) 1073741824 with
          | true => some (D.int (.ofNat (Nat.div m n)))
          | false => none)
        | false => none)
      rw [nfN_eq]
      show (Bool.rec (motive := fun _ => Option D) none (Bool.rec (motive := fun _ => Option D) none _ (Nat.ble (Nat.add n 1) 1073741824)) (Nat.ble 1 n)) = _
      cases Nat.ble 1 n <;> cases Nat.ble (Nat.add n 1) 1073741824 <;> rfl
def pMod (x y : D) : Option D := (D.rec (motive_1 := fun _ => Option D) (motive_2 := fun _ => PUnit.{1}) (fstr (binF .mod x y)) (fun _ => fstr (binF .mod x y)) (fun i => Int.rec (motive := fun _ => Option D) (fun m => (D.rec (motive_1 := fun _ => Option D) (motive_2 := fun _ => PUnit.{1}) (none) (fun _ => none) (fun j => Int.rec (motive := fun _ => Option D) (fun n => (Bool.rec (motive := fun _ => Option D) none (nfN (Nat.mod m n) fun z => some (.int (.ofNat z))) (Nat.ble (nat_lit 1) n))) (fun _ => none) j) (fun _ => none) (fun _ _ => none) (fun _ _ => none) (none) PUnit.unit (fun _ _ _ _ => PUnit.unit) y)) (fun _ => fstr (binF .mod x y)) i) (fun _ => fstr (binF .mod x y)) (fun _ _ => fstr (binF .mod x y)) (fun _ _ => fstr (binF .mod x y)) (fstr (binF .mod x y)) PUnit.unit (fun _ _ _ _ => PUnit.unit) x)
theorem pMod_eq (x y : D) : pMod x y = fMod x y := by
  cases x <;> first
    | (unfold pMod; exact fstr_eq _)
    | skip
  rename_i i
  cases i with
  | negSucc m => unfold pMod; exact fstr_eq _
  | ofNat m =>
    cases y <;> first
      | rfl
      | skip
    rename_i j
    cases j with
    | negSucc n => rfl
    | ofNat n =>
      show (Bool.rec (motive := fun _ => Option D) none (nfN (Nat.mod m n) fun z => some (D.int (.ofNat z))) (Nat.ble 1 n)) = (match Nat.ble 1 n with
        | true => some (D.int (.ofNat (Nat.mod m n)))
        | false => none)
      rw [nfN_eq]
      cases Nat.ble 1 n <;> rfl
def pLt (x y : D) : Option Bool := (D.rec (motive_1 := fun _ => Option Bool) (motive_2 := fun _ => PUnit.{1}) (none) (fun _ => none) (fun i => (D.rec (motive_1 := fun _ => Option Bool) (motive_2 := fun _ => PUnit.{1}) (none) (fun _ => none) (fun j => some (ilt i j)) (fun _ => none) (fun _ _ => none) (fun _ _ => none) (none) PUnit.unit (fun _ _ _ _ => PUnit.unit) y)) (fun _ => none) (fun _ _ => none) (fun _ _ => none) (none) PUnit.unit (fun _ _ _ _ => PUnit.unit) x)
def pGe (x y : D) : Option Bool := (D.rec (motive_1 := fun _ => Option Bool) (motive_2 := fun _ => PUnit.{1}) (none) (fun _ => none) (fun i => (D.rec (motive_1 := fun _ => Option Bool) (motive_2 := fun _ => PUnit.{1}) (none) (fun _ => none) (fun j => some (Bool.rec (motive := fun _ => Bool) true false (ilt i j))) (fun _ => none) (fun _ _ => none) (fun _ _ => none) (none) PUnit.unit (fun _ _ _ _ => PUnit.unit) y)) (fun _ => none) (fun _ _ => none) (fun _ _ => none) (none) PUnit.unit (fun _ _ _ _ => PUnit.unit) x)
theorem pLt_eq (x y : D) : pLt x y = fLt false x y := by
  cases x <;> cases y <;> try rfl
  rename_i i j
  show some (ilt i j) = some (flt i j)
  rw [ilt_eq]
theorem pGe_eq (x y : D) : pGe x y = fLt true x y := by
  cases x <;> cases y <;> try rfl
  rename_i i j
  show some (Bool.rec (motive := fun _ => Bool) true false (ilt i j)) = some (!flt i j)
  rw [ilt_eq]
  cases flt i j <;> rfl
/-! ### equality -/
def pqs (n : Nat) (ih : D → D → Option Bool) (xs : List D) : List D → Option Bool := List.rec (motive := fun _ => List D → Option Bool) (fun ys => List.rec (motive := fun _ => Option Bool) (some true) (fun y r _ => Bool.rec (motive := fun _ => Option Bool) none (some false) (ffitL n (y :: r))) ys)
  (fun x r rec ys => List.rec (motive := fun _ => Option Bool) (Bool.rec (motive := fun _ => Option Bool) none (some false) (ffitL n (x :: r))) (fun y ys _ => Option.rec (motive := fun _ => Option Bool) none (fun k => Bool.rec (motive := fun _ => Option Bool)
    (Bool.rec (motive := fun _ => Option Bool) none (Bool.rec (motive := fun _ => Option Bool) none (some false) (ffitL n ys)) (ffitL n r)) (rec ys) k) (ih x y)) ys) xs
theorem pqs_eq (n : Nat) {f g : D → D → Option Bool} (h : ∀ a b, f a b = g a b) : ∀ xs ys : List D, pqs n f xs ys = fqs n g xs ys
  | [], [] => rfl
  | [], y :: ys => by
    show Bool.rec (motive := fun _ => Option Bool) none (some false) (ffitL n (y :: ys)) = match ffitL n (y :: ys) with | true => some false | false => none
    cases ffitL n (y :: ys) <;> rfl
  | x :: xs, [] => by
    show Bool.rec (motive := fun _ => Option Bool) none (some false) (ffitL n (x :: xs)) = match ffitL n (x :: xs) with | true => some false | false => none
    cases ffitL n (x :: xs) <;> rfl
  | x :: xs, y :: ys => by
    show Option.rec (motive := fun _ => Option Bool) none (fun k => Bool.rec (motive := fun _ => Option Bool) (Bool.rec (motive := fun _ => Option Bool) none (Bool.rec (motive := fun _ => Option Bool) none (some false) (ffitL n ys)) (ffitL n xs)) (pqs n f xs ys) k) (f x y) =
      bnd (g x y) fun k => match k with
        | true => fqs n g xs ys
        | false => (match ffitL n xs with
          | true => (match ffitL n ys with
            | true => some false
            | false => none)
          | false => none)
    rw [h x y, pqs_eq n h xs ys]
    cases g x y with
    | none => rfl
    | some k => cases k with
      | true => rfl
      | false =>
        show Bool.rec (motive := fun _ => Option Bool) none (Bool.rec (motive := fun _ => Option Bool) none (some false) (ffitL n ys)) (ffitL n xs) = match ffitL n xs with
          | true => (match ffitL n ys with
            | true => some false
            | false => none)
          | false => none
        cases ffitL n xs <;> cases ffitL n ys <;> rfl
def pq : Nat → D → D → Option Bool := Nat.rec (motive := fun _ => D → D → Option Bool) (fun _ _ => none) (fun n ih a b => (D.rec (motive_1 := fun _ => Option Bool) (motive_2 := fun _ => PUnit.{1}) (fgen (Nat.succ n) a b) (fun _ => fgen (Nat.succ n) a b) (fun i => (D.rec (motive_1 := fun _ => Option Bool) (motive_2 := fun _ => PUnit.{1}) (fgen (Nat.succ n) a b) (fun _ => fgen (Nat.succ n) a b) (fun j => some (ieq i j)) (fun _ => fgen (Nat.succ n) a b) (fun _ _ => fgen (Nat.succ n) a b) (fun _ _ => fgen (Nat.succ n) a b) (fgen (Nat.succ n) a b) PUnit.unit (fun _ _ _ _ => PUnit.unit) b)) (fun _ => fgen (Nat.succ n) a b) (fun xs _ => (D.rec (motive_1 := fun _ => Option Bool) (motive_2 := fun _ => PUnit.{1}) (fgen (Nat.succ n) a b) (fun _ => fgen (Nat.succ n) a b) (fun _ => fgen (Nat.succ n) a b) (fun _ => fgen (Nat.succ n) a b) (fun ys _ => pqs n ih xs ys) (fun _ _ => fgen (Nat.succ n) a b) (fgen (Nat.succ n) a b) PUnit.unit (fun _ _ _ _ => PUnit.unit) b)) (fun xs _ => (D.rec (motive_1 := fun _ => Option Bool) (motive_2 := fun _ => PUnit.{1}) (fgen (Nat.succ n) a b) (fun _ => fgen (Nat.succ n) a b) (fun _ => fgen (Nat.succ n) a b) (fun _ => fgen (Nat.succ n) a b) (fun _ _ => fgen (Nat.succ n) a b) (fun ys _ => pqs n ih xs ys) (fgen (Nat.succ n) a b) PUnit.unit (fun _ _ _ _ => PUnit.unit) b)) (fgen (Nat.succ n) a b) PUnit.unit (fun _ _ _ _ => PUnit.unit) a))
theorem pq_eq : ∀ (n : Nat) (a b : D), pq n a b = fq n a b
  | 0, a, b => rfl
  | n + 1, a, b => by
    cases a <;> cases b <;> first
      | rfl
      | exact congrArg some (ieq_eq _ _)
      | exact pqs_eq n (pq_eq n) _ _
def peq (a b : D) : Option Bool := pq (nat_lit 60) a b
theorem peq_eq (a b : D) : peq a b = feq2 a b := pq_eq 60 a b
/-! ### others -/
def ftI (i : Int) : Bool := Int.rec (motive := fun _ => Bool) (fun n => Nat.ble (nat_lit 1) n) (fun _ => true) i
def fne (xs : List D) : Bool := List.rec (motive := fun _ => Bool) false (fun _ _ _ => true) xs
def htr (x : D) : Option Bool := (D.rec (motive_1 := fun _ => Option Bool) (motive_2 := fun _ => PUnit.{1}) (truth x) (fun b => some b) (fun i => some (ftI i)) (fun _ => truth x) (fun xs _ => some (fne xs)) (fun xs _ => some (fne xs)) (truth x) PUnit.unit (fun _ _ _ _ => PUnit.unit) x)
theorem htr_eq (d : D) : htr d = truth d := by
  cases d with
  | int i =>
    cases i with
    | ofNat n => exact ftruth_eq (.int (.ofNat n))
    | negSucc n => rfl
  | tup xs => cases xs <;> rfl
  | lst xs => cases xs <;> rfl
  | _ => rfl
def pSeqOf (x : D) : Option (List D) := (D.rec (motive_1 := fun _ => Option (List D)) (motive_2 := fun _ => PUnit.{1}) (none) (fun _ => none) (fun _ => none) (fun _ => none) (fun xs _ => some xs) (fun xs _ => some xs) (none) PUnit.unit (fun _ _ _ _ => PUnit.unit) x)
theorem pSeqOf_eq (x : D) : pSeqOf x = seqOf x := by cases x <;> rfl
def pAt (xs : List D) (i : Int) : Option D := Int.rec (motive := fun _ => Option D) (fun n => fnth xs n) (fun n => Bool.rec (motive := fun _ => Option D) none (fnth xs (Nat.sub (flen xs) (Nat.succ n))) (Nat.ble (Nat.succ n) (flen xs))) i
theorem pAt_eq (xs : List D) (i : Int) : pAt xs i = fatI xs i := by
  cases i with
  | ofNat n => rfl
  | negSucc n =>
    show (Bool.rec (motive := fun _ => Option D) none (fnth xs (Nat.sub (flen xs) (Nat.add n 1))) (Nat.ble (Nat.add n 1) (flen xs))) = (match Nat.ble (Nat.add n 1) (flen xs) with
      | true => fnth xs (Nat.sub (flen xs) (Nat.add n 1))
      | false => none)
    cases Nat.ble (Nat.add n 1) (flen xs) <;> rfl
def pIx (x y : D) : Option D := (D.rec (motive_1 := fun _ => Option D) (motive_2 := fun _ => PUnit.{1}) (none) (fun _ => none) (fun _ => none) (fun _ => none) (fun xs _ => (D.rec (motive_1 := fun _ => Option D) (motive_2 := fun _ => PUnit.{1}) (none) (fun _ => none) (fun i => pAt xs i) (fun _ => none) (fun _ _ => none) (fun _ _ => none) (none) PUnit.unit (fun _ _ _ _ => PUnit.unit) y)) (fun xs _ => (D.rec (motive_1 := fun _ => Option D) (motive_2 := fun _ => PUnit.{1}) (none) (fun _ => none) (fun i => pAt xs i) (fun _ => none) (fun _ _ => none) (fun _ _ => none) (none) PUnit.unit (fun _ _ _ _ => PUnit.unit) y)) (none) PUnit.unit (fun _ _ _ _ => PUnit.unit) x)
theorem pIx_eq (x y : D) : pIx x y = fix x y := by cases x <;> cases y <;> first | rfl | exact pAt_eq _ _
def psIx (n d : Nat) (o : Option Int) : Nat := Option.rec (motive := fun _ => Nat) d (fun v => Int.rec (motive := fun _ => Nat) (fun v => Bool.rec (motive := fun _ => Nat) n v (Nat.ble v n)) (fun v => Nat.sub n (Nat.succ v)) v) o
theorem psIx_eq (n d : Nat) (o : Option Int) : psIx n d o = fsIx n d o := by
  cases o with
  | none => rfl
  | some i => cases i with
    | ofNat v =>
      show (Bool.rec (motive := fun _ => Nat) n v (Nat.ble v n)) = match Nat.ble v n with | true => v | false => n
      cases Nat.ble v n <;> rfl
    | negSucc v => rfl
def pcut (xs : List D) (lo hi : Option Int) : List D := ftake (fdrop xs (psIx (flen xs) (nat_lit 0) lo)) (Nat.sub (psIx (flen xs) (flen xs) hi) (psIx (flen xs) (nat_lit 0) lo))
theorem pcut_eq (xs : List D) (lo hi : Option Int) : pcut xs lo hi = fcut xs lo hi := by
  unfold pcut fcut
  rw [psIx_eq, psIx_eq]
def pSl (x : D) (lo hi : Option Int) : Option D := (D.rec (motive_1 := fun _ => Option D) (motive_2 := fun _ => PUnit.{1}) (none) (fun _ => none) (fun _ => none) (fun _ => none) (fun xs _ => fls (pcut xs lo hi) fun l => some (.tup l)) (fun xs _ => fls (pcut xs lo hi) fun l => some (.lst l)) (none) PUnit.unit (fun _ _ _ _ => PUnit.unit) x)
theorem pSl_eq (x : D) (lo hi : Option Int) : pSl x lo hi = fsl x lo hi := by
  cases x with
  | tup xs => show fls _ _ = some (D.tup (fcut xs lo hi)); rw [fls_eq, pcut_eq]
  | lst xs => show fls _ _ = some (D.lst (fcut xs lo hi)); rw [fls_eq, pcut_eq]
  | _ => rfl
def pNeg (x : D) : Option D := (D.rec (motive_1 := fun _ => Option D) (motive_2 := fun _ => PUnit.{1}) (none) (fun _ => none) (fun i => nfI (Int.neg i) fun i => some (.int i)) (fun _ => none) (fun _ _ => none) (fun _ _ => none) (none) PUnit.unit (fun _ _ _ _ => PUnit.unit) x)
def pInt (x : D) : Option (Option Int) := (D.rec (motive_1 := fun _ => Option (Option Int)) (motive_2 := fun _ => PUnit.{1}) (none) (fun _ => none) (fun i => some (some i)) (fun _ => none) (fun _ _ => none) (fun _ _ => none) (none) PUnit.unit (fun _ _ _ _ => PUnit.unit) x)
def pSum (xs : List D) : Option Int := List.rec (motive := fun _ => Option Int) (some (.ofNat (nat_lit 0))) (fun x _ r => (D.rec (motive_1 := fun _ => Option Int) (motive_2 := fun _ => PUnit.{1}) (none) (fun _ => none) (fun i => Option.rec (motive := fun _ => Option Int) none (fun s => nfI (iadd i s) some) r) (fun _ => none) (fun _ _ => none) (fun _ _ => none) (none) PUnit.unit (fun _ _ _ _ => PUnit.unit) x)) xs
theorem pSum_eq : ∀ xs : List D, pSum xs = fsum xs
  | [] => rfl
  | x :: xs => by
    cases x <;> first
      | rfl
      | skip
    rename_i i
    show Option.rec (motive := fun _ => Option Int) none (fun s => nfI (iadd i s) some) (pSum xs) = bnd (fsum xs) fun s => some (fadd i s)
    rw [pSum_eq xs]
    cases fsum xs with
    | none => rfl
    | some s =>
      show nfI (iadd i s) some = some (fadd i s)
      rw [nfI_eq, iadd_eq, fadd_eq]
def pLen (ds : List D) : Option D := List.rec (motive := fun _ => Option D) none (fun x r _ => List.rec (motive := fun _ => Option D) (D.rec (motive_1 := fun _ => Option D) (motive_2 := fun _ => PUnit.{1}) (none) (fun _ => none) (fun _ => none) (fun _ => none) (fun xs _ => nfN (flen xs) fun n => some (.int (.ofNat n))) (fun xs _ => nfN (flen xs) fun n => some (.int (.ofNat n))) (none) PUnit.unit (fun _ _ _ _ => PUnit.unit) x) (fun _ _ _ => none) r) ds
theorem pLen_ok {ds : List D} {d : D} (h : pLen ds = some d) : bltF .len ds = some d := by
  match ds, h with
  | [], h => cases h
  | [x], h =>
    cases x with
    | tup xs =>
      replace h : nfN (flen xs) (fun n => some (D.int (.ofNat n))) = some d := h
      rw [nfN_eq, flen_eq] at h; exact h
    | lst xs =>
      replace h : nfN (flen xs) (fun n => some (D.int (.ofNat n))) = some d := h
      rw [nfN_eq, flen_eq] at h; exact h
    | _ => cases h
  | _ :: _ :: _, h => cases h
def pSumL (ds : List D) : Option D := List.rec (motive := fun _ => Option D) none (fun x r _ => List.rec (motive := fun _ => Option D) (D.rec (motive_1 := fun _ => Option D) (motive_2 := fun _ => PUnit.{1}) (none) (fun _ => none) (fun _ => none) (fun _ => none) (fun _ _ => none) (fun xs _ => Option.rec (motive := fun _ => Option D) none (fun s => some (.int s)) (pSum xs)) (none) PUnit.unit (fun _ _ _ _ => PUnit.unit) x) (fun _ _ _ => none) r) ds
theorem pSumL_ok {ds : List D} {d : D} (h : pSumL ds = some d) : bltF .sum ds = some d := by
  match ds, h with
  | [], h => cases h
  | [x], h =>
    cases x with
    | lst xs =>
      replace h : Option.rec (motive := fun _ => Option D) none (fun s => some (D.int s)) (pSum xs) = some d := h
      rw [pSum_eq] at h
      obtain ⟨s, h1, h2⟩ := bnd_some (show bnd (fsum xs) (fun s => some (D.int s)) = some d from h)
      have := fsum_ok h1
      show (allI xs).map (fun l => D.int l.sum) = _
      obtain ⟨l, e1, e2⟩ := Option.map_eq_some_iff.mp this
      rw [e1, Option.map_some, e2]
      exact h2
    | _ => cases h
  | _ :: _ :: _, h => cases h
/-! ### ranges -/
def frngC (n : Nat) (lo : Int) (k : List D → Option D) : Option D := Nat.rec (motive := fun _ => Int → (List D → Option D) → Option D) (fun _ k => k []) (fun _ ih lo k => nfI lo fun lo => ih (iadd lo (.ofNat (nat_lit 1))) fun r => k (.int lo :: r)) n lo k
theorem frngC_eq : ∀ (n : Nat) (lo : Int) (k : List D → Option D), frngC n lo k = k (frngL n lo)
  | 0, lo, k => rfl
  | n + 1, lo, k => by
    show nfI lo (fun lo => frngC n (iadd lo (.ofNat 1)) fun r => k (.int lo :: r)) = _
    rw [nfI_eq, frngC_eq n, iadd_eq]
    show k (.int lo :: frngL n (lo + 1)) = k (.int lo :: frngL n (fadd lo 1))
    rw [fadd_eq]
def p62 (i : Int) : Bool := Int.rec (motive := fun _ => Bool) (fun n => Nat.ble (Nat.succ n) (nat_lit 4611686018427387904)) (fun n => Nat.ble (Nat.succ n) (nat_lit 4611686018427387904)) i
theorem p62_eq (i : Int) : p62 i = fin62 i := by cases i <;> rfl
def pnat (i : Int) : Nat := Int.rec (motive := fun _ => Nat) (fun n => n) (fun _ => nat_lit 0) i
theorem pnat_eq (i : Int) : pnat i = fnat i := by cases i <;> rfl
def frngS (ds : List D) (k : List D → Option D) : Option D := List.rec (motive := fun _ => Option D) none (fun x r _ => List.rec (motive := fun _ => Option D) (D.rec (motive_1 := fun _ => Option D) (motive_2 := fun _ => PUnit.{1}) (Option.rec (motive := fun _ => Option D) none k (rngF ds)) (fun _ => Option.rec (motive := fun _ => Option D) none k (rngF ds)) (fun j => (Bool.rec (motive := fun _ => Option D) none (frngC (pnat j) (.ofNat (nat_lit 0)) k) (p62 j))) (fun _ => Option.rec (motive := fun _ => Option D) none k (rngF ds)) (fun _ _ => Option.rec (motive := fun _ => Option D) none k (rngF ds)) (fun _ _ => Option.rec (motive := fun _ => Option D) none k (rngF ds)) (Option.rec (motive := fun _ => Option D) none k (rngF ds)) PUnit.unit (fun _ _ _ _ => PUnit.unit) x) (fun y r2 _ => List.rec (motive := fun _ => Option D) (D.rec (motive_1 := fun _ => Option D) (motive_2 := fun _ => PUnit.{1}) (Option.rec (motive := fun _ => Option D) none k (rngF ds)) (fun _ => Option.rec (motive := fun _ => Option D) none k (rngF ds)) (fun i => (D.rec (motive_1 := fun _ => Option D) (motive_2 := fun _ => PUnit.{1}) (Option.rec (motive := fun _ => Option D) none k (rngF ds)) (fun _ => Option.rec (motive := fun _ => Option D) none k (rngF ds)) (fun j => (Bool.rec (motive := fun _ => Option D) none (Bool.rec (motive := fun _ => Option D) none (frngC (pnat (isub j i)) i k) (p62 j)) (p62 i))) (fun _ => Option.rec (motive := fun _ => Option D) none k (rngF ds)) (fun _ _ => Option.rec (motive := fun _ => Option D) none k (rngF ds)) (fun _ _ => Option.rec (motive := fun _ => Option D) none k (rngF ds)) (Option.rec (motive := fun _ => Option D) none k (rngF ds)) PUnit.unit (fun _ _ _ _ => PUnit.unit) y)) (fun _ => Option.rec (motive := fun _ => Option D) none k (rngF ds)) (fun _ _ => Option.rec (motive := fun _ => Option D) none k (rngF ds)) (fun _ _ => Option.rec (motive := fun _ => Option D) none k (rngF ds)) (Option.rec (motive := fun _ => Option D) none k (rngF ds)) PUnit.unit (fun _ _ _ _ => PUnit.unit) x) (fun _ _ _ => Option.rec (motive := fun _ => Option D) none k (rngF ds)) r2) r) ds
theorem frngS_ok {ds : List D} {k : List D → Option D} {d : D} (h : frngS ds k = some d) : ∃ l, rngF ds = some l ∧ k l = some d := by
  have gen : ∀ {l : List D}, Option.rec (motive := fun _ => Option D) none k (rngF l) = some d → ∃ m, rngF l = some m ∧ k m = some d := fun h => bnd_some h
  match ds, h with
  | [], h => cases h
  | [x], h =>
    cases x with
    | int j =>
      replace h : Bool.rec (motive := fun _ => Option D) none (frngC (pnat j) (.ofNat 0) k) (p62 j) = some d := h
      cases hj : p62 j with
      | false => rw [hj] at h; cases h
      | true =>
        rw [hj] at h
        replace h : frngC (pnat j) (.ofNat 0) k = some d := h
        rw [frngC_eq, pnat_eq] at h
        rw [p62_eq] at hj
        refine ⟨_, frng_ok ?_, h⟩
        show (match fin62 j with | true => some (frngL (fnat j) 0) | false => none) = _
        rw [hj]
        rfl
    | _ => exact gen h
  | [x, y], h =>
    cases x <;> first
      | exact gen h
      | skip
    rename_i i
    cases y <;> first
      | exact gen h
      | skip
    rename_i j
    replace h : Bool.rec (motive := fun _ => Option D) none (Bool.rec (motive := fun _ => Option D) none (frngC (pnat (isub j i)) i k) (p62 j)) (p62 i) = some d := h
    cases hi : p62 i with
    | false => rw [hi] at h; cases h
    | true =>
      cases hj : p62 j with
      | false => rw [hi, hj] at h; cases h
      | true =>
        rw [hi, hj] at h
        replace h : frngC (pnat (isub j i)) i k = some d := h
        rw [frngC_eq, pnat_eq, isub_eq, ← fsub_eq] at h
        rw [p62_eq] at hi hj
        refine ⟨_, frng_ok ?_, h⟩
        show (match fin62 i with | true => (match fin62 j with | true => some (frngL (fnat (fsub j i)) i) | false => none) | false => none) = _
        rw [hi, hj]
  | _ :: _ :: _ :: _, h => exact gen h
/-! ### the environment: thirteen slots -/
inductive Sd where
  | no | val (d : D) | own (ds : List D)
def Sd.sl : Sd → Option Sl
  | .no => none
  | .val d => some (.val d)
  | .own ds => some (.own ds)
structure En where
  (a0 a1 a2 a3 a4 a5 a6 a7 a8 a9 a10 a11 a12 : Sd)
def En.toL (ρ : En) : EnvD := [ρ.a0.sl, ρ.a1.sl, ρ.a2.sl, ρ.a3.sl, ρ.a4.sl, ρ.a5.sl, ρ.a6.sl, ρ.a7.sl, ρ.a8.sl, ρ.a9.sl, ρ.a10.sl, ρ.a11.sl, ρ.a12.sl]
structure GB where
  f : En → Sd
structure PB where
  f : En → Sd → En
def getB (i : Nat) : GB := match i with
  | 0 => ⟨fun ρ => En.rec (motive := fun _ => Sd) (fun a0 a1 a2 a3 a4 a5 a6 a7 a8 a9 a10 a11 a12 => a0) ρ⟩
  | 1 => ⟨fun ρ => En.rec (motive := fun _ => Sd) (fun a0 a1 a2 a3 a4 a5 a6 a7 a8 a9 a10 a11 a12 => a1) ρ⟩
  | 2 => ⟨fun ρ => En.rec (motive := fun _ => Sd) (fun a0 a1 a2 a3 a4 a5 a6 a7 a8 a9 a10 a11 a12 => a2) ρ⟩
  | 3 => ⟨fun ρ => En.rec (motive := fun _ => Sd) (fun a0 a1 a2 a3 a4 a5 a6 a7 a8 a9 a10 a11 a12 => a3) ρ⟩
  | 4 => ⟨fun ρ => En.rec (motive := fun _ => Sd) (fun a0 a1 a2 a3 a4 a5 a6 a7 a8 a9 a10 a11 a12 => a4) ρ⟩
  | 5 => ⟨fun ρ => En.rec (motive := fun _ => Sd) (fun a0 a1 a2 a3 a4 a5 a6 a7 a8 a9 a10 a11 a12 => a5) ρ⟩
  | 6 => ⟨fun ρ => En.rec (motive := fun _ => Sd) (fun a0 a1 a2 a3 a4 a5 a6 a7 a8 a9 a10 a11 a12 => a6) ρ⟩
  | 7 => ⟨fun ρ => En.rec (motive := fun _ => Sd) (fun a0 a1 a2 a3 a4 a5 a6 a7 a8 a9 a10 a11 a12 => a7) ρ⟩
  | 8 => ⟨fun ρ => En.rec (motive := fun _ => Sd) (fun a0 a1 a2 a3 a4 a5 a6 a7 a8 a9 a10 a11 a12 => a8) ρ⟩
  | 9 => ⟨fun ρ => En.rec (motive := fun _ => Sd) (fun a0 a1 a2 a3 a4 a5 a6 a7 a8 a9 a10 a11 a12 => a9) ρ⟩
  | 10 => ⟨fun ρ => En.rec (motive := fun _ => Sd) (fun a0 a1 a2 a3 a4 a5 a6 a7 a8 a9 a10 a11 a12 => a10) ρ⟩
  | 11 => ⟨fun ρ => En.rec (motive := fun _ => Sd) (fun a0 a1 a2 a3 a4 a5 a6 a7 a8 a9 a10 a11 a12 => a11) ρ⟩
  | 12 => ⟨fun ρ => En.rec (motive := fun _ => Sd) (fun a0 a1 a2 a3 a4 a5 a6 a7 a8 a9 a10 a11 a12 => a12) ρ⟩
  | _ => ⟨fun _ => .no⟩
def putB (i : Nat) : PB := match i with
  | 0 => ⟨fun ρ v => En.rec (motive := fun _ => En) (fun a0 a1 a2 a3 a4 a5 a6 a7 a8 a9 a10 a11 a12 => En.mk v a1 a2 a3 a4 a5 a6 a7 a8 a9 a10 a11 a12) ρ⟩
  | 1 => ⟨fun ρ v => En.rec (motive := fun _ => En) (fun a0 a1 a2 a3 a4 a5 a6 a7 a8 a9 a10 a11 a12 => En.mk a0 v a2 a3 a4 a5 a6 a7 a8 a9 a10 a11 a12) ρ⟩
  | 2 => ⟨fun ρ v => En.rec (motive := fun _ => En) (fun a0 a1 a2 a3 a4 a5 a6 a7 a8 a9 a10 a11 a12 => En.mk a0 a1 v a3 a4 a5 a6 a7 a8 a9 a10 a11 a12) ρ⟩
  | 3 => ⟨fun ρ v => En.rec (motive := fun _ => En) (fun a0 a1 a2 a3 a4 a5 a6 a7 a8 a9 a10 a11 a12 => En.mk a0 a1 a2 v a4 a5 a6 a7 a8 a9 a10 a11 a12) ρ⟩
  | 4 => ⟨fun ρ v => En.rec (motive := fun _ => En) (fun a0 a1 a2 a3 a4 a5 a6 a7 a8 a9 a10 a11 a12 => En.mk a0 a1 a2 a3 v a5 a6 a7 a8 a9 a10 a11 a12) ρ⟩
  | 5 => ⟨fun ρ v => En.rec (motive := fun _ => En) (fun a0 a1 a2 a3 a4 a5 a6 a7 a8 a9 a10 a11 a12 => En.mk a0 a1 a2 a3 a4 v a6 a7 a8 a9 a10 a11 a12) ρ⟩
  | 6 => ⟨fun ρ v => En.rec (motive := fun _ => En) (fun a0 a1 a2 a3 a4 a5 a6 a7 a8 a9 a10 a11 a12 => En.mk a0 a1 a2 a3 a4 a5 v a7 a8 a9 a10 a11 a12) ρ⟩
  | 7 => ⟨fun ρ v => En.rec (motive := fun _ => En) (fun a0 a1 a2 a3 a4 a5 a6 a7 a8 a9 a10 a11 a12 => En.mk a0 a1 a2 a3 a4 a5 a6 v a8 a9 a10 a11 a12) ρ⟩
  | 8 => ⟨fun ρ v => En.rec (motive := fun _ => En) (fun a0 a1 a2 a3 a4 a5 a6 a7 a8 a9 a10 a11 a12 => En.mk a0 a1 a2 a3 a4 a5 a6 a7 v a9 a10 a11 a12) ρ⟩
  | 9 => ⟨fun ρ v => En.rec (motive := fun _ => En) (fun a0 a1 a2 a3 a4 a5 a6 a7 a8 a9 a10 a11 a12 => En.mk a0 a1 a2 a3 a4 a5 a6 a7 a8 v a10 a11 a12) ρ⟩
  | 10 => ⟨fun ρ v => En.rec (motive := fun _ => En) (fun a0 a1 a2 a3 a4 a5 a6 a7 a8 a9 a10 a11 a12 => En.mk a0 a1 a2 a3 a4 a5 a6 a7 a8 a9 v a11 a12) ρ⟩
  | 11 => ⟨fun ρ v => En.rec (motive := fun _ => En) (fun a0 a1 a2 a3 a4 a5 a6 a7 a8 a9 a10 a11 a12 => En.mk a0 a1 a2 a3 a4 a5 a6 a7 a8 a9 a10 v a12) ρ⟩
  | 12 => ⟨fun ρ v => En.rec (motive := fun _ => En) (fun a0 a1 a2 a3 a4 a5 a6 a7 a8 a9 a10 a11 a12 => En.mk a0 a1 a2 a3 a4 a5 a6 a7 a8 a9 a10 a11 v) ρ⟩
  | _ => ⟨fun ρ _ => ρ⟩
def gete (ρ : En) (i : Nat) : Sd := GB.rec (motive := fun _ => Sd) (fun f => f ρ) (getB i)
def pute (ρ : En) (v : Sd) (i : Nat) : En := PB.rec (motive := fun _ => En) (fun f => f ρ v) (putB i)
theorem gete_none (ρ : En) (i : Nat) : (ρ.toL[i]? = none ∧ gete ρ i = .no) ∨ ρ.toL[i]? = some (gete ρ i).sl := by
  match i with
  | 0 => exact .inr rfl
  | 1 => exact .inr rfl
  | 2 => exact .inr rfl
  | 3 => exact .inr rfl
  | 4 => exact .inr rfl
  | 5 => exact .inr rfl
  | 6 => exact .inr rfl
  | 7 => exact .inr rfl
  | 8 => exact .inr rfl
  | 9 => exact .inr rfl
  | 10 => exact .inr rfl
  | 11 => exact .inr rfl
  | 12 => exact .inr rfl
  | n + 13 => exact .inl ⟨List.getElem?_eq_none (show 13 ≤ n + 13 from Nat.le_add_left _ _), rfl⟩
theorem gete_val {ρ : En} {i : Nat} {d : D} (h : gete ρ i = .val d) : ρ.toL[i]? = some (some (.val d)) := by
  rcases gete_none ρ i with ⟨_, h2⟩ | h2
  · rw [h] at h2; cases h2
  · rw [h2, h]; rfl
theorem gete_own {ρ : En} {i : Nat} {d : List D} (h : gete ρ i = .own d) : ρ.toL[i]? = some (some (.own d)) := by
  rcases gete_none ρ i with ⟨_, h2⟩ | h2
  · rw [h] at h2; cases h2
  · rw [h2, h]; rfl
theorem pute_eq (ρ : En) (v : Sd) (i : Nat) : (pute ρ v i).toL = ρ.toL.set i v.sl := by
  match i with
  | 0 => rfl
  | 1 => rfl
  | 2 => rfl
  | 3 => rfl
  | 4 => rfl
  | 5 => rfl
  | 6 => rfl
  | 7 => rfl
  | 8 => rfl
  | 9 => rfl
  | 10 => rfl
  | 11 => rfl
  | 12 => rfl
  | n + 13 =>
    show ρ.toL = _
    rw [List.set_eq_of_length_le]
    exact Nat.le_add_left _ _
end
end Ev

/-! Ev21: the evaluator for the kernel: expressions, compiled once. -/
namespace Ev
open PySem (Str CmpOp)
noncomputable section
local macro_rules | `($o >>= $k) => `(Option.rec (motive := fun _ => Option _) none $k $o)
structure AB where
  f : D → En → Option En
structure WB where
  f : En → En
structure NB where
  f : En → Bool
def hsetAll (is : List Nat) : List D → En → Option En := List.rec (motive := fun _ => List D → En → Option En) (fun ds ρ => List.rec (motive := fun _ => Option En) (some ρ) (fun _ _ _ => none) ds)
  (fun i _ ih ds ρ => match ds with
    | [] => none
    | d :: ds => ih ds (pute ρ (.val d) i)) is
theorem hsetAll_ok : ∀ (is : List Nat) (ds : List D) (ρ ρ' : En), hsetAll is ds ρ = some ρ' → setAll is ds ρ.toL = some ρ'.toL
  | [], [], ρ, ρ', h => by cases h; rfl
  | [], _ :: _, ρ, ρ', h => by cases h
  | _ :: _, [], ρ, ρ', h => by cases h
  | i :: is, d :: ds, ρ, ρ', h => by
    have h2 := hsetAll_ok is ds (pute ρ (.val d) i) ρ' h
    rw [pute_eq] at h2
    exact h2
def asgB (tg : T) : AB := match tg with
  | .nm i => PB.rec (motive := fun _ => AB) (fun p => ⟨fun d ρ => some (p ρ (.val d))⟩) (putB i)
  | .tp is => ⟨fun d ρ => match d with
    | .tup ds => hsetAll is ds ρ
    | _ => none⟩
theorem asgB_ok {tg : T} {d : D} {ρ ρ' : En} (h : (asgB tg).f d ρ = some ρ') : asgT tg d ρ.toL = some ρ'.toL := by
  cases tg with
  | nm i =>
    replace h : some (pute ρ (.val d) i) = some ρ' := h
    cases h
    show some _ = some _
    rw [pute_eq]
    rfl
  | tp is =>
    cases d with
    | tup ds => exact hsetAll_ok is ds ρ ρ' h
    | _ => cases h
def wipeB (vs : List Nat) : WB := List.rec (motive := fun _ => WB) ⟨fun ρ => ρ⟩ (fun v _ ih => PB.rec (motive := fun _ => WB) (fun p => WB.rec (motive := fun _ => WB) (fun w => ⟨fun ρ => p (w ρ) .no⟩) ih) (putB v)) vs
theorem wipeB_eq (ρ : En) : ∀ vs : List Nat, ((wipeB vs).f ρ).toL = wipeE ρ.toL vs
  | [] => rfl
  | v :: vs => by
    show (pute ((wipeB vs).f ρ) .no v).toL = (wipeE ρ.toL vs).set v none
    rw [pute_eq, wipeB_eq ρ vs]
    rfl
def isOwn (o : Sd) : Bool := Sd.rec (motive := fun _ => Bool) false (fun _ => false) (fun _ => true) o
def noB (vs : List Nat) : NB := List.rec (motive := fun _ => NB) ⟨fun _ => true⟩ (fun v _ ih => GB.rec (motive := fun _ => NB) (fun g => NB.rec (motive := fun _ => NB) (fun w => ⟨fun ρ => Bool.rec (motive := fun _ => Bool) (w ρ) false (isOwn (g ρ))⟩) ih) (getB v)) vs
theorem noB_ok (ρ : En) : ∀ vs : List Nat, (noB vs).f ρ = true → noOwn ρ.toL vs = true
  | [], _ => rfl
  | v :: vs, h => by
    replace h : Bool.rec (motive := fun _ => Bool) ((noB vs).f ρ) false (isOwn (gete ρ v)) = true := h
    show ((match ρ.toL[v]? with | some (some (.own _)) => false | _ => true) && noOwn ρ.toL vs) = true
    cases ho : isOwn (gete ρ v) with
    | true => rw [ho] at h; cases h
    | false =>
      rw [ho] at h
      rw [noB_ok ρ vs h, Bool.and_true]
      rcases gete_none ρ v with ⟨h1, h2⟩ | h1
      · rw [h1]
      · rw [h1]
        cases e : gete ρ v with
        | no => rfl
        | own ds => rw [e] at ho; cases ho
        | val d => rfl
/-! ### expressions -/
abbrev HE := PC → En → Option D
abbrev HEs := PC → En → Option (List D)
structure FB where
  t : HE
  f : HE
  ts : HEs
  fs : HEs
structure OB where
  f : D → D → Option D
structure CB where
  f : D → D → Option Bool
structure UB where
  f : List D → Option D
def no1 : HE := fun _ _ => none
def no2 : HEs := fun _ _ => none
def one (k : HE) : FB := ⟨k, k, no2, no2⟩
def opB (op : BOp) : OB := BOp.rec (motive := fun _ => OB) ⟨fun x y => pAdd x y⟩ ⟨fun x y => pSub x y⟩ ⟨fun x y => pMul x y⟩ ⟨fun x y => pDiv x y⟩ ⟨fun x y => pMod x y⟩ ⟨fun x y => fstr (binF .and x y)⟩ ⟨fun x y => fstr (binF .xor x y)⟩ ⟨fun x y => fstr (binF .shr x y)⟩ ⟨fun x y => fstr (binF .shl x y)⟩ op
theorem opB_eq (op : BOp) (x y : D) : (opB op).f x y = fbin op x y := by
  cases op with
  | add => exact pAdd_eq x y
  | sub => exact pSub_eq x y
  | mul => exact pMul_eq x y
  | fdiv => exact pDiv_eq x y
  | mod => exact pMod_eq x y
  | _ => exact fstr_eq _
def cmB (op : CmpOp) : CB := match op with
  | .Lt => ⟨fun x y => pLt x y⟩
  | .LtE => ⟨fun x y => pGe y x⟩
  | .Gt => ⟨fun x y => pLt y x⟩
  | .GtE => ⟨fun x y => pGe x y⟩
  | .Eq => ⟨fun x y => peq x y⟩
  | .NotEq => ⟨fun x y => Option.rec (motive := fun _ => Option Bool) none (fun k => some (Bool.rec (motive := fun _ => Bool) true false k)) (peq x y)⟩
  | op => ⟨fun x y => fcmp op x y⟩
theorem cmB_eq (op : CmpOp) (x y : D) : (cmB op).f x y = fcmp op x y := by
  cases op with
  | Lt => exact pLt_eq x y
  | LtE => exact pGe_eq y x
  | Gt => exact pLt_eq y x
  | GtE => exact pGe_eq x y
  | Eq => exact peq_eq x y
  | NotEq =>
    show Option.rec (motive := fun _ => Option Bool) none (fun k => some (Bool.rec (motive := fun _ => Bool) true false k)) (peq x y) = bnd (feq2 x y) fun k => some !k
    rw [peq_eq]
    cases feq2 x y with
    | none => rfl
    | some k => cases k <;> rfl
  | _ => rfl
def blB (f : B) : UB := match f with
  | .len => ⟨fun ds => pLen ds⟩
  | .sum => ⟨fun ds => pSumL ds⟩
  | f => ⟨fun ds => fstr (bltF f ds)⟩
theorem blB_ok {f : B} {ds : List D} {d : D} (h : (blB f).f ds = some d) : bltF f ds = some d := by
  cases f with
  | len => exact pLen_ok h
  | sum => exact pSumL_ok h
  | _ =>
    replace h : fstr (bltF _ ds) = some d := h
    rw [fstr_eq] at h
    exact h
def hcomp (f : D → Option (Option D)) (ds : List D) : Option (List D) := List.rec (motive := fun _ => Option (List D)) (some []) (fun d _ r => (f d) >>= fun o => bnd r fun ys => Option.rec (motive := fun _ => Option (List D)) (some ys) (fun y => some (y :: ys)) o) ds
def ecnt (e : E) : Nat := E.rec (motive := fun _ => Nat) (var := fun _ => 0) (int := fun _ => 0) (str := fun _ => 0) (bl := fun _ => 0) (non := 0) (gint := fun _ _ => 0) (tup := fun _ _ => 0) (lst := fun _ _ => 0) (nil := 0) (cons := fun _ _ _ ih => Nat.add ih 1)
  (bin := fun _ _ _ _ _ => 0) (neg := fun _ _ => 0) (not := fun _ _ => 0) (and := fun _ _ _ _ => 0) (or := fun _ _ _ _ => 0) (cmp := fun _ _ _ _ _ => 0) (chn := fun _ _ _ _ _ _ _ _ => 0) (ite := fun _ _ _ _ _ _ => 0) (call := fun _ _ _ => 0) (blt := fun _ _ _ => 0) (ix := fun _ _ _ _ => 0)
  (sl := fun _ _ _ _ _ _ => 0) (rev := fun _ _ => 0) (comp := fun _ _ _ _ _ _ _ _ => 0) (rng := fun _ _ => 0) e
theorem ecnt_ok {call : Nat → List D → DS → R D} : ∀ (es : E) (b : Bool) (ρ : EnvD) (t t' : DS) (ds : List D), evEs call es b ρ t = some (ds, t') → ds.length = ecnt es := by
  intro es
  induction es with
  | nil => intro b ρ t t' ds h; cases h; rfl
  | cons e es _ ih =>
    intro b ρ t t' ds h
    simp only [evEs] at h
    split at h
    · split at h
      · rename_i e2
        cases h
        show _ + 1 = Nat.add (ecnt es) 1
        rw [ih _ _ _ _ _ e2]
      · cases h
    · cases h
  | _ => intro b ρ t t' ds h; cases h
def mVar (i : Nat) : FB := GB.rec (motive := fun _ => FB) (fun g => ⟨fun _ ρ => Sd.rec (motive := fun _ => Option D) none (fun d => some d) (fun ds => some (.lst ds)) (g ρ), fun _ ρ => Sd.rec (motive := fun _ => Option D) none (fun d => some d) (fun _ => none) (g ρ), no2, no2⟩) (getB i)
def mTup (b : Bool) (A : FB) : FB := FB.rec (motive := fun _ => FB) (fun _ _ _ fs => Bool.rec (motive := fun _ => FB) (one no1) (one fun c ρ => (fs c ρ) >>= fun ds => some (.tup ds)) b) A
def mLst (b : Bool) (A : FB) : FB := FB.rec (motive := fun _ => FB) (fun _ _ _ fs => Bool.rec (motive := fun _ => FB) (one no1) (one fun c ρ => (fs c ρ) >>= fun ds => some (.lst ds)) b) A
def mCons (A B : FB) : FB := FB.rec (motive := fun _ => FB) (fun at_ af _ _ => FB.rec (motive := fun _ => FB) (fun _ _ bt bf => ⟨no1, no1, fun c ρ => (at_ c ρ) >>= fun d => (bt c ρ) >>= fun ds => some (d :: ds), fun c ρ => (af c ρ) >>= fun d => (bf c ρ) >>= fun ds => some (d :: ds)⟩) B) A
def mBin (op : BOp) (A B : FB) : FB := FB.rec (motive := fun _ => FB) (fun at_ _ _ _ => FB.rec (motive := fun _ => FB) (fun bt _ _ _ => OB.rec (motive := fun _ => FB) (fun f => one fun c ρ => (at_ c ρ) >>= fun x => (bt c ρ) >>= fun y => f x y) (opB op)) B) A
def mNeg (A : FB) : FB := FB.rec (motive := fun _ => FB) (fun at_ _ _ _ => one fun c ρ => (at_ c ρ) >>= fun x => pNeg x) A
def mNot (A : FB) : FB := FB.rec (motive := fun _ => FB) (fun at_ _ _ _ => one fun c ρ => (at_ c ρ) >>= fun x => (htr x) >>= fun k => Bool.rec (motive := fun _ => Option D) (some (.bl true)) (some (.bl false)) k) A
def and1 (a b : HE) : HE := fun c ρ => (a c ρ) >>= fun x => (htr x) >>= fun k => Bool.rec (motive := fun _ => Option D) (some x) (b c ρ) k
def or1 (a b : HE) : HE := fun c ρ => (a c ρ) >>= fun x => (htr x) >>= fun k => Bool.rec (motive := fun _ => Option D) (b c ρ) (some x) k
def ite1 (e a b : HE) : HE := fun c ρ => (e c ρ) >>= fun x => (htr x) >>= fun k => Bool.rec (motive := fun _ => Option D) (b c ρ) (a c ρ) k
def mAnd (A B : FB) : FB := FB.rec (motive := fun _ => FB) (fun at_ af _ _ => FB.rec (motive := fun _ => FB) (fun bt bf _ _ => ⟨and1 at_ bt, and1 af bf, no2, no2⟩) B) A
def mOr (A B : FB) : FB := FB.rec (motive := fun _ => FB) (fun at_ af _ _ => FB.rec (motive := fun _ => FB) (fun bt bf _ _ => ⟨or1 at_ bt, or1 af bf, no2, no2⟩) B) A
def mIte (C A B : FB) : FB := FB.rec (motive := fun _ => FB) (fun ct _ _ _ => FB.rec (motive := fun _ => FB) (fun at_ af _ _ => FB.rec (motive := fun _ => FB) (fun bt bf _ _ => ⟨ite1 ct at_ bt, ite1 ct af bf, no2, no2⟩) B) A) C
def mCmp (op : CmpOp) (A B : FB) : FB := FB.rec (motive := fun _ => FB) (fun at_ _ _ _ => FB.rec (motive := fun _ => FB) (fun bt _ _ _ => CB.rec (motive := fun _ => FB) (fun f => one fun c ρ => (at_ c ρ) >>= fun x => (bt c ρ) >>= fun y => (f x y) >>= fbl) (cmB op)) B) A
def mChn (o p : CmpOp) (A B C : FB) : FB := FB.rec (motive := fun _ => FB) (fun at_ _ _ _ => FB.rec (motive := fun _ => FB) (fun bt _ _ _ => FB.rec (motive := fun _ => FB) (fun ct _ _ _ => CB.rec (motive := fun _ => FB) (fun f => CB.rec (motive := fun _ => FB) (fun g =>
  one fun c ρ => (at_ c ρ) >>= fun x => (bt c ρ) >>= fun y => (f x y) >>= fun k => Bool.rec (motive := fun _ => Option D) (some (.bl false)) ((ct c ρ) >>= fun z => (g y z) >>= fbl) k) (cmB p)) (cmB o)) C) B) A
def mCall (f : Nat) (A : FB) : FB := FB.rec (motive := fun _ => FB) (fun _ _ _ fs => one fun c ρ => (fs c ρ) >>= fun ds => c f ds) A
def mBlt (f : B) (A : FB) : FB := FB.rec (motive := fun _ => FB) (fun _ _ ts _ => UB.rec (motive := fun _ => FB) (fun f => one fun c ρ => (ts c ρ) >>= fun ds => f ds) (blB f)) A
def mIx (A B : FB) : FB := FB.rec (motive := fun _ => FB) (fun at_ _ _ _ => FB.rec (motive := fun _ => FB) (fun bt _ _ _ => one fun c ρ => (at_ c ρ) >>= fun x => (bt c ρ) >>= fun y => pIx x y) B) A
def opt1 (b : Bool) (e : HE) : PC → En → Option (Option Int) := Bool.rec (motive := fun _ => PC → En → Option (Option Int)) (fun c ρ => (e c ρ) >>= pInt) (fun _ _ => some none) b
def mSl (b1 b2 : Bool) (A B C : FB) : FB := FB.rec (motive := fun _ => FB) (fun at_ _ _ _ => FB.rec (motive := fun _ => FB) (fun bt _ _ _ => FB.rec (motive := fun _ => FB) (fun ct _ _ _ => one fun c ρ => (at_ c ρ) >>= fun x => (opt1 b1 bt c ρ) >>= fun l => (opt1 b2 ct c ρ) >>= fun h => pSl x l h) C) B) A
def mRev (A : FB) : FB := FB.rec (motive := fun _ => FB) (fun at_ _ _ _ => one fun c ρ => (at_ c ρ) >>= fun x => fstr (revF x)) A
def optC1 (b : Bool) (e : HE) : PC → En → Option Bool := Bool.rec (motive := fun _ => PC → En → Option Bool) (fun c ρ => (e c ρ) >>= htr) (fun _ _ => some true) b
def mComp (own : List (Str × Nat)) (tg : T) (b : Bool) (A B C : FB) : FB := FB.rec (motive := fun _ => FB) (fun at_ _ _ _ => FB.rec (motive := fun _ => FB) (fun bt _ _ _ => FB.rec (motive := fun _ => FB) (fun _ cf _ _ =>
  AB.rec (motive := fun _ => FB) (fun ag => WB.rec (motive := fun _ => FB) (fun wp => NB.rec (motive := fun _ => FB) (fun nb =>
    one fun cc ρ => (at_ cc ρ) >>= fun x => (pSeqOf x) >>= fun ds => Bool.rec (motive := fun _ => Option D) none (Bool.rec (motive := fun _ => Option D) none
      ((hcomp (fun d => (ag d (wp ρ)) >>= fun ρ' => (optC1 b bt cc ρ') >>= fun k => Bool.rec (motive := fun _ => Option (Option D)) (some none) ((cf cc ρ') >>= fun y => some (some y)) k) ds) >>= fun ys => some (.lst ys)) (fleB ds)) (nb ρ))
    (noB (own.map (·.2)))) (wipeB (own.map (·.2)))) (asgB tg)) C) B) A
def mRng (A : FB) : FB := FB.rec (motive := fun _ => FB) (fun _ _ ts _ => one fun c ρ => (ts c ρ) >>= fun ds => frngS ds fun l => some (.lst l)) A
def mLit (o : Option D) : FB := Option.rec (motive := fun _ => FB) (one fun _ _ => none) (fun d => one fun _ _ => some d) o
def hE (e : E) : FB := E.rec (motive := fun _ => FB)
  (var := fun i => mVar i)
  (int := fun i => mLit (nfI i fun i => some (.int i)))
  (str := fun s => one fun _ _ => some (.str s))
  (bl := fun k => one fun _ _ => some (.bl k))
  (non := one fun _ _ => some .non)
  (gint := fun _ i => mLit (nfI i fun i => some (.int i)))
  (tup := fun es ih => mTup (Nat.ble (ecnt es) line) ih)
  (lst := fun es ih => mLst (Nat.ble (ecnt es) line) ih)
  (nil := ⟨no1, no1, fun _ _ => some [], fun _ _ => some []⟩)
  (cons := fun _ _ ih1 ih2 => mCons ih1 ih2)
  (bin := fun op _ _ ih1 ih2 => mBin op ih1 ih2)
  (neg := fun _ ih => mNeg ih)
  (not := fun _ ih => mNot ih)
  (and := fun _ _ ih1 ih2 => mAnd ih1 ih2)
  (or := fun _ _ ih1 ih2 => mOr ih1 ih2)
  (cmp := fun op _ _ ih1 ih2 => mCmp op ih1 ih2)
  (chn := fun o p _ _ _ ih1 ih2 ih3 => mChn o p ih1 ih2 ih3)
  (ite := fun _ _ _ ih1 ih2 ih3 => mIte ih1 ih2 ih3)
  (call := fun f _ ih => mCall f ih)
  (blt := fun f _ ih => mBlt f ih)
  (ix := fun _ _ ih1 ih2 => mIx ih1 ih2)
  (sl := fun _ lo hi ih1 ih2 ih3 => mSl lo.isNil hi.isNil ih1 ih2 ih3)
  (rev := fun _ ih => mRev ih)
  (comp := fun own tg _ c _ ih1 ih2 ih3 => mComp own tg c.isNil ih1 ih2 ih3)
  (rng := fun _ ih => mRng ih)
  e
def PCok (c : PC) (call : Nat → List D → DS → R D) : Prop := ∀ f ds d, c f ds = some d → ∀ t, call f ds t = some (d, t)
structure HOk (c : PC) (call : Nat → List D → DS → R D) (e : E) (A : FB) : Prop where
  t : ∀ ρ d, A.t c ρ = some d → ∀ t, evE call e true ρ.toL t = some (d, t)
  f : ∀ ρ d, A.f c ρ = some d → ∀ t, evE call e false ρ.toL t = some (d, t)
  ts : ∀ ρ ds, A.ts c ρ = some ds → ∀ t, evEs call e true ρ.toL t = some (ds, t)
  fs : ∀ ρ ds, A.fs c ρ = some ds → ∀ t, evEs call e false ρ.toL t = some (ds, t)
section
variable {c : PC} {call : Nat → List D → DS → R D}
/-- a form that does not ask how it is read -/
theorem HOk.one {e : E} {k : HE} (h : ∀ ρ d, k c ρ = some d → ∀ b t, evE call e b ρ.toL t = some (d, t)) : HOk c call e (Ev.one k) :=
  ⟨fun ρ d q t => h ρ d q true t, fun ρ d q t => h ρ d q false t, fun ρ ds q => (nomatch q), fun ρ ds q => (nomatch q)⟩
theorem HOk.two {e : E} {k1 k2 : HE} (h1 : ∀ ρ d, k1 c ρ = some d → ∀ t, evE call e true ρ.toL t = some (d, t)) (h2 : ∀ ρ d, k2 c ρ = some d → ∀ t, evE call e false ρ.toL t = some (d, t)) : HOk c call e ⟨k1, k2, no2, no2⟩ :=
  ⟨h1, h2, fun ρ ds q => (nomatch q), fun ρ ds q => (nomatch q)⟩
theorem hcomp_ok {f : D → Option (Option D)} {g : D → DS → R (Option D)} (hf : ∀ d o, f d = some o → ∀ t, g d t = some (o, t)) : ∀ (ds ys acc : List D) (t : DS), hcomp f ds = some ys → acc.length + ds.length ≤ line → compL g ds acc t = some (acc.reverse ++ ys, t)
  | [], ys, acc, t, h, hl => by cases h; unfold compL; rw [List.append_nil]
  | d :: ds, ys, acc, t, h, hl => by
    obtain ⟨o, h1, h2⟩ := bnd_some (show bnd (f d) (fun o => bnd (hcomp f ds) fun ys => Option.rec (motive := fun _ => Option (List D)) (some ys) (fun y => some (y :: ys)) o) = some ys from h)
    obtain ⟨zs, h3, h4⟩ := bnd_some h2
    rw [List.length_cons] at hl
    unfold compL
    rw [hf d o h1 t]
    cases o with
    | none =>
      cases h4
      exact hcomp_ok hf ds ys acc t h3 (by omega)
    | some y =>
      cases h4
      show (if acc.length < line then compL g ds (y :: acc) t else none) = _
      rw [if_pos (by omega), hcomp_ok hf ds zs (y :: acc) t h3 (by rw [List.length_cons]; omega), List.reverse_cons, List.append_assoc]
      rfl
theorem hE_ok (hc : PCok c call) (e : E) : HOk c call e (hE e) := by
  have tru : ∀ {d k}, htr d = some k → truth d = some k := fun h => by rw [← htr_eq]; exact h
  induction e with
  | var i =>
    show HOk c call (.var i) ⟨fun _ ρ => Sd.rec (motive := fun _ => Option D) none (fun d => some d) (fun ds => some (.lst ds)) (gete ρ i), fun _ ρ => Sd.rec (motive := fun _ => Option D) none (fun d => some d) (fun _ => none) (gete ρ i), no2, no2⟩
    refine HOk.two (fun ρ d h t => ?_) (fun ρ d h t => ?_)
    · simp only [evE]
      cases e : gete ρ i with
      | no => rw [e] at h; cases h
      | own ds => rw [e] at h; cases h; rw [gete_own e]; rfl
      | val d => rw [e] at h; cases h; rw [gete_val e]
    · simp only [evE]
      cases e : gete ρ i with
      | no => rw [e] at h; cases h
      | own ds => rw [e] at h; cases h
      | val d => rw [e] at h; cases h; rw [gete_val e]
  | int i =>
    show HOk c call (.int i) (mLit (nfI i fun i => some (D.int i)))
    rw [nfI_eq]
    exact HOk.one fun ρ d h b t => by cases h; rfl
  | str i => exact HOk.one fun ρ d h b t => by cases h; rfl
  | bl i => exact HOk.one fun ρ d h b t => by cases h; rfl
  | non => exact HOk.one fun ρ d h b t => by cases h; rfl
  | gint j i =>
    show HOk c call (.gint j i) (mLit (nfI i fun i => some (D.int i)))
    rw [nfI_eq]
    exact HOk.one fun ρ d h b t => by cases h; rfl
  | tup es ih =>
    show HOk c call (.tup es) (mTup (Nat.ble (ecnt es) line) (hE es))
    revert ih
    generalize hE es = A
    cases A
    intro ih
    cases hb : Nat.ble (ecnt es) line with
    | false => exact HOk.one fun ρ d h b t => nomatch h
    | true =>
      refine HOk.one fun ρ d h b t => ?_
      obtain ⟨ds, h1, h2⟩ := bnd_some h
      cases h2
      have e1 := ih.fs _ _ h1 t
      have e2 := ecnt_ok _ _ _ _ _ _ e1
      have e3 : ds.length ≤ line := by rw [e2]; exact Nat.le_of_ble_eq_true hb
      simp only [evE]
      rw [e1]
      simp only [if_pos e3]
  | lst es ih =>
    show HOk c call (.lst es) (mLst (Nat.ble (ecnt es) line) (hE es))
    revert ih
    generalize hE es = A
    cases A
    intro ih
    cases hb : Nat.ble (ecnt es) line with
    | false => exact HOk.one fun ρ d h b t => nomatch h
    | true =>
      refine HOk.one fun ρ d h b t => ?_
      obtain ⟨ds, h1, h2⟩ := bnd_some h
      cases h2
      have e1 := ih.fs _ _ h1 t
      have e2 := ecnt_ok _ _ _ _ _ _ e1
      have e3 : ds.length ≤ line := by rw [e2]; exact Nat.le_of_ble_eq_true hb
      simp only [evE]
      rw [e1]
      simp only [if_pos e3]
  | nil => exact ⟨fun ρ d h => (nomatch h), fun ρ d h => (nomatch h), fun ρ ds h t => (by cases h; rfl), fun ρ ds h t => (by cases h; rfl)⟩
  | cons e es ih1 ih2 =>
    show HOk c call (.cons e es) (mCons (hE e) (hE es))
    revert ih1 ih2
    generalize hE e = A
    generalize hE es = B
    cases A
    cases B
    intro ih1 ih2
    refine ⟨fun ρ d h => (nomatch h), fun ρ d h => (nomatch h), fun ρ ds h t => ?_, fun ρ ds h t => ?_⟩
    · obtain ⟨d, h1, h2⟩ := bnd_some h
      obtain ⟨ds', h3, h4⟩ := bnd_some h2
      cases h4
      simp only [evEs, ih1.t _ _ h1, ih2.ts _ _ h3]
    · obtain ⟨d, h1, h2⟩ := bnd_some h
      obtain ⟨ds', h3, h4⟩ := bnd_some h2
      cases h4
      simp only [evEs, ih1.f _ _ h1, ih2.fs _ _ h3]
  | bin op a b iha ihb =>
    show HOk c call (.bin op a b) (mBin op (hE a) (hE b))
    revert iha ihb
    generalize hE a = A
    generalize hE b = B
    cases A
    cases B
    intro iha ihb
    refine HOk.one fun ρ d h m t => ?_
    obtain ⟨x, h1, h2⟩ := bnd_some h
    obtain ⟨y, h3, h4⟩ := bnd_some h2
    replace h4 : (opB op).f x y = some d := h4
    rw [opB_eq] at h4
    simp only [evE, iha.t _ _ h1, ihb.t _ _ h3, fbin_ok h4]
  | neg a ih =>
    show HOk c call (.neg a) (mNeg (hE a))
    revert ih
    generalize hE a = A
    cases A
    intro ih
    refine HOk.one fun ρ d h m t => ?_
    obtain ⟨x, h1, h2⟩ := bnd_some h
    simp only [evE, ih.t _ _ h1]
    cases x <;> first
      | (cases h2; done)
      | skip
    rename_i i
    replace h2 : nfI (Int.neg i) (fun i => some (D.int i)) = some d := h2
    rw [nfI_eq] at h2
    cases h2
    rfl
  | not a ih =>
    show HOk c call (.not a) (mNot (hE a))
    revert ih
    generalize hE a = A
    cases A
    intro ih
    refine HOk.one fun ρ d h m t => ?_
    obtain ⟨x, h1, h2⟩ := bnd_some h
    obtain ⟨k, h3, h4⟩ := bnd_some h2
    simp only [evE, ih.t _ _ h1, tru h3]
    cases k <;> (cases h4; rfl)
  | and a b iha ihb =>
    show HOk c call (.and a b) (mAnd (hE a) (hE b))
    revert iha ihb
    generalize hE a = A
    generalize hE b = B
    cases A
    cases B
    intro iha ihb
    refine HOk.two (fun ρ d h t => ?_) (fun ρ d h t => ?_)
    · obtain ⟨x, h1, h2⟩ := bnd_some h
      obtain ⟨k, h3, h4⟩ := bnd_some h2
      simp only [evE, iha.t _ _ h1, tru h3]
      cases k with
      | true => exact ihb.t _ _ h4 t
      | false => cases h4; rfl
    · obtain ⟨x, h1, h2⟩ := bnd_some h
      obtain ⟨k, h3, h4⟩ := bnd_some h2
      simp only [evE, iha.f _ _ h1, tru h3]
      cases k with
      | true => exact ihb.f _ _ h4 t
      | false => cases h4; rfl
  | or a b iha ihb =>
    show HOk c call (.or a b) (mOr (hE a) (hE b))
    revert iha ihb
    generalize hE a = A
    generalize hE b = B
    cases A
    cases B
    intro iha ihb
    refine HOk.two (fun ρ d h t => ?_) (fun ρ d h t => ?_)
    · obtain ⟨x, h1, h2⟩ := bnd_some h
      obtain ⟨k, h3, h4⟩ := bnd_some h2
      simp only [evE, iha.t _ _ h1, tru h3]
      cases k with
      | true => cases h4; rfl
      | false => exact ihb.t _ _ h4 t
    · obtain ⟨x, h1, h2⟩ := bnd_some h
      obtain ⟨k, h3, h4⟩ := bnd_some h2
      simp only [evE, iha.f _ _ h1, tru h3]
      cases k with
      | true => cases h4; rfl
      | false => exact ihb.f _ _ h4 t
  | cmp op a b iha ihb =>
    show HOk c call (.cmp op a b) (mCmp op (hE a) (hE b))
    revert iha ihb
    generalize hE a = A
    generalize hE b = B
    cases A
    cases B
    intro iha ihb
    refine HOk.one fun ρ d h m t => ?_
    obtain ⟨x, h1, h2⟩ := bnd_some h
    obtain ⟨y, h3, h4⟩ := bnd_some h2
    obtain ⟨k, h5, h6⟩ := bnd_some h4
    replace h5 : (cmB op).f x y = some k := h5
    rw [cmB_eq] at h5
    rw [fbl_eq] at h6
    cases h6
    simp only [evE, iha.t _ _ h1, ihb.t _ _ h3, fcmp_ok h5]
  | chn o p a b e iha ihb ihe =>
    show HOk c call (.chn o p a b e) (mChn o p (hE a) (hE b) (hE e))
    revert iha ihb ihe
    generalize hE a = A
    generalize hE b = B
    generalize hE e = C
    cases A
    cases B
    cases C
    intro iha ihb ihe
    refine HOk.one fun ρ d h m t => ?_
    obtain ⟨x, h1, h2⟩ := bnd_some h
    obtain ⟨y, h3, h4⟩ := bnd_some h2
    obtain ⟨k, h5, h6⟩ := bnd_some h4
    replace h5 : (cmB o).f x y = some k := h5
    rw [cmB_eq] at h5
    simp only [evE, iha.t _ _ h1, ihb.t _ _ h3, fcmp_ok h5]
    cases k with
    | true =>
      obtain ⟨z, h7, h8⟩ := bnd_some h6
      obtain ⟨k2, h9, h10⟩ := bnd_some h8
      replace h9 : (cmB p).f y z = some k2 := h9
      rw [cmB_eq] at h9
      rw [fbl_eq] at h10
      cases h10
      simp only [ihe.t _ _ h7, fcmp_ok h9]
    | false => cases h6; rfl
  | ite e a b ihe iha ihb =>
    show HOk c call (.ite e a b) (mIte (hE e) (hE a) (hE b))
    revert ihe iha ihb
    generalize hE e = C
    generalize hE a = A
    generalize hE b = B
    cases A
    cases B
    cases C
    intro ihe iha ihb
    refine HOk.two (fun ρ d h t => ?_) (fun ρ d h t => ?_)
    · obtain ⟨x, h1, h2⟩ := bnd_some h
      obtain ⟨k, h3, h4⟩ := bnd_some h2
      simp only [evE, ihe.t _ _ h1, tru h3]
      cases k with
      | true => exact iha.t _ _ h4 t
      | false => exact ihb.t _ _ h4 t
    · obtain ⟨x, h1, h2⟩ := bnd_some h
      obtain ⟨k, h3, h4⟩ := bnd_some h2
      simp only [evE, ihe.t _ _ h1, tru h3]
      cases k with
      | true => exact iha.f _ _ h4 t
      | false => exact ihb.f _ _ h4 t
  | call f es ih =>
    show HOk c call (.call f es) (mCall f (hE es))
    revert ih
    generalize hE es = A
    cases A
    intro ih
    refine HOk.one fun ρ d h m t => ?_
    obtain ⟨ds, h1, h2⟩ := bnd_some h
    simp only [evE, ih.fs _ _ h1]
    exact hc _ _ _ h2 t
  | blt f es ih =>
    show HOk c call (.blt f es) (mBlt f (hE es))
    revert ih
    generalize hE es = A
    cases A
    intro ih
    refine HOk.one fun ρ d h m t => ?_
    obtain ⟨ds, h1, h2⟩ := bnd_some h
    replace h2 : (blB f).f ds = some d := h2
    simp only [evE, ih.ts _ _ h1, blB_ok h2]
  | ix a i iha ihi =>
    show HOk c call (.ix a i) (mIx (hE a) (hE i))
    revert iha ihi
    generalize hE a = A
    generalize hE i = B
    cases A
    cases B
    intro iha ihi
    refine HOk.one fun ρ d h m t => ?_
    obtain ⟨x, h1, h2⟩ := bnd_some h
    obtain ⟨y, h3, h4⟩ := bnd_some h2
    rw [pIx_eq, fix_eq] at h4
    simp only [evE, iha.t _ _ h1, ihi.t _ _ h3, h4]
  | sl a lo hi iha ihl ihh =>
    show HOk c call (.sl a lo hi) (mSl lo.isNil hi.isNil (hE a) (hE lo) (hE hi))
    have opt : ∀ {e : E} {A : FB} {ρ : En} {o : Option Int} (t : DS), HOk c call e A → opt1 e.isNil A.t c ρ = some o → optP e (evE call e true ρ.toL t) t = some (o, t) := fun {e A ρ o} t ih h => by
      unfold optP
      cases hn : e.isNil with
      | true => rw [hn] at h; cases h; rfl
      | false =>
        rw [hn] at h
        obtain ⟨z, g1, g2⟩ := bnd_some h
        rw [ih.t _ _ g1 t]
        cases z <;> first
          | (cases g2; done)
          | skip
        cases g2
        rfl
    revert iha ihl ihh
    generalize hE a = A
    generalize hE lo = B
    generalize hE hi = C
    cases A
    cases B
    cases C
    intro iha ihl ihh
    refine HOk.one fun ρ d h m t => ?_
    obtain ⟨x, h1, h2⟩ := bnd_some h
    obtain ⟨l, h3, h4⟩ := bnd_some h2
    obtain ⟨u, h5, h6⟩ := bnd_some h4
    rw [pSl_eq, fsl_eq] at h6
    simp only [evE, iha.t _ _ h1, opt t ihl h3, opt t ihh h5, h6]
  | rev a ih =>
    show HOk c call (.rev a) (mRev (hE a))
    revert ih
    generalize hE a = A
    cases A
    intro ih
    refine HOk.one fun ρ d h m t => ?_
    obtain ⟨x, h1, h2⟩ := bnd_some h
    rw [fstr_eq] at h2
    simp only [evE, ih.t _ _ h1, h2]
  | comp own tg it cc e ih1 ih2 ih3 =>
    show HOk c call (.comp own tg it cc e) (mComp own tg cc.isNil (hE it) (hE cc) (hE e))
    have optc : ∀ {e : E} {A : FB} {ρ : En} {k : Bool} (t : DS), HOk c call e A → optC1 e.isNil A.t c ρ = some k → optC e (evE call e true ρ.toL t) t = some (k, t) := fun {e A ρ k} t ih h => by
      unfold optC
      cases hn : e.isNil with
      | true => rw [hn] at h; cases h; rfl
      | false =>
        rw [hn] at h
        obtain ⟨z, g1, g2⟩ := bnd_some h
        rw [ih.t _ _ g1 t]
        show tst (some (z, t)) = _
        unfold tst
        simp only [tru g2]
    revert ih1 ih2 ih3
    generalize hE it = A
    generalize hE cc = B
    generalize hE e = C
    cases A
    cases B
    rename_i bt bf bts bfs
    cases C
    rename_i ct cf cts cfs
    intro ih1 ih2 ih3
    refine HOk.one fun ρ d h m t => ?_
    obtain ⟨x, h1, h2⟩ := bnd_some h
    obtain ⟨ds, h3, h4⟩ := bnd_some h2
    rw [pSeqOf_eq] at h3
    replace h4 : Bool.rec (motive := fun _ => Option D) none (Bool.rec (motive := fun _ => Option D) none
      (bnd (hcomp (fun d => bnd ((asgB tg).f d ((wipeB (own.map (·.2))).f ρ)) fun ρ' => bnd (optC1 cc.isNil bt c ρ') fun k => Bool.rec (motive := fun _ => Option (Option D)) (some none) (bnd (cf c ρ') fun y => some (some y)) k) ds) fun ys => some (.lst ys)) (fleB ds)) ((noB (own.map (·.2))).f ρ) = some d := h4
    cases hno : (noB (own.map (·.2))).f ρ with
    | false => rw [hno] at h4; cases h4
    | true =>
      rw [hno] at h4
      cases hl : fleB ds with
      | false => rw [hl] at h4; cases h4
      | true =>
        rw [hl] at h4
        obtain ⟨ys, h5, h6⟩ := bnd_some h4
        cases h6
        simp only [evE, ih1.t _ _ h1, h3, if_pos (noB_ok ρ _ hno)]
        have hk : ∀ g, (∀ d o, (bnd ((asgB tg).f d ((wipeB (own.map (·.2))).f ρ)) fun ρ' => bnd (optC1 cc.isNil bt c ρ') fun k => Bool.rec (motive := fun _ => Option (Option D)) (some none) (bnd (cf c ρ') fun y => some (some y)) k) = some o → ∀ t, g d t = some (o, t)) → compL g ds [] t = some (ys, t) :=
          fun g hf => hcomp_ok hf ds ys [] t h5 (by rw [List.length_nil, Nat.zero_add]; exact fleB_eq hl)
        rw [hk _ fun d o hd t => ?_]
        obtain ⟨ρ', g1, g2⟩ := bnd_some hd
        obtain ⟨k, g3, g4⟩ := bnd_some g2
        have g1' := asgB_ok g1
        rw [wipeB_eq] at g1'
        simp only [g1', optc t ih2 g3]
        cases k with
        | true =>
          obtain ⟨y, q1, q2⟩ := bnd_some g4
          cases q2
          simp only [ih3.f _ _ q1]
        | false => cases g4; rfl
  | rng es ih =>
    show HOk c call (.rng es) (mRng (hE es))
    revert ih
    generalize hE es = A
    cases A
    intro ih
    refine HOk.one fun ρ d h m t => ?_
    obtain ⟨ds, h1, h2⟩ := bnd_some h
    obtain ⟨l, h3, h4⟩ := frngS_ok h2
    cases h4
    simp only [evE, ih.ts _ _ h1, h3]
end
end
end Ev

/-! Ev22: the evaluator for the kernel: statements, defs. -/
namespace Ev
open PySem (Str CmpOp)
noncomputable section
local macro_rules | `($o >>= $k) => `(Option.rec (motive := fun _ => Option _) none $k $o)
inductive Fh where
  | nx (ρ : En) | rt (d : D) | bk (ρ : En) | ct (ρ : En)
def Fh.toFl : Fh → Fl
  | .nx ρ => .nx ρ.toL
  | .rt d => .rt d
  | .bk ρ => .bk ρ.toL
  | .ct ρ => .ct ρ.toL
abbrev HS := PC → Nat → En → Option Fh
structure SB where
  f : HS
structure VB where
  f : D → En → En
structure LB where
  f : PC → En → Option (List Sd)
structure TB where
  f : List Sd → En → Option En
def sls (ss : List Sd) : List (Option Sl) := ss.map Sd.sl
def mkSd (x : D) : Sd := (D.rec (motive_1 := fun _ => Sd) (motive_2 := fun _ => PUnit.{1}) (.val x) (fun _ => .val x) (fun _ => .val x) (fun _ => .val x) (fun _ _ => .val x) (fun ds _ => .own ds) (.val x) PUnit.unit (fun _ _ _ _ => PUnit.unit) x)
theorem mkSd_eq (d : D) : (mkSd d).sl = some (mkSl true d) := by cases d <;> rfl
def ffrz1 (ρ : En) (i : Nat) : En := Sd.rec (motive := fun _ => En) ρ (fun _ => ρ) (fun ds => pute ρ (.val (.lst ds)) i) (gete ρ i)
theorem ffrz1_eq (ρ : En) (i : Nat) : (ffrz1 ρ i).toL = frz1 ρ.toL i := by
  unfold ffrz1 frz1
  rcases gete_none ρ i with ⟨h, h2⟩ | h
  · rw [h, h2]
  · rw [h]
    cases e : gete ρ i with
    | no => rfl
    | own ds => exact pute_eq _ _ _
    | val d => rfl
def frzB (is : List Nat) : WB := List.rec (motive := fun _ => WB) ⟨fun ρ => ρ⟩ (fun i _ ih => WB.rec (motive := fun _ => WB) (fun w => ⟨fun ρ => w (ffrz1 ρ i)⟩) ih) is
theorem frzB_eq : ∀ (is : List Nat) (ρ : En), ((frzB is).f ρ).toL = frz ρ.toL is
  | [], ρ => rfl
  | i :: is, ρ => by
    show ((frzB is).f (ffrz1 ρ i)).toL = frz (frz1 ρ.toL i) is
    rw [frzB_eq is, ffrz1_eq]
/-- a store: new lists become the slot's own -/
def asvB (tg : T) (nw : Bool) : AB := match tg with
  | .nm i => Bool.rec (motive := fun _ => AB) (asgB (.nm i)) (PB.rec (motive := fun _ => AB) (fun p => ⟨fun d ρ => (D.rec (motive_1 := fun _ => Option En) (motive_2 := fun _ => PUnit.{1}) (some (p ρ (.val d))) (fun _ => some (p ρ (.val d))) (fun _ => some (p ρ (.val d))) (fun _ => some (p ρ (.val d))) (fun _ _ => some (p ρ (.val d))) (fun ds _ => some (p ρ (.own ds))) (some (p ρ (.val d))) PUnit.unit (fun _ _ _ _ => PUnit.unit) d)⟩) (putB i)) nw
  | .tp is => asgB (.tp is)
theorem asvB_ok {tg : T} {nw : Bool} {d : D} {ρ ρ' : En} (h : (asvB tg nw).f d ρ = some ρ') : asgV tg nw d ρ.toL = some ρ'.toL := by
  cases tg with
  | nm i =>
    cases nw with
    | false => exact asgB_ok (tg := .nm i) h
    | true =>
      cases d with
      | lst ds =>
        replace h : some (pute ρ (.own ds) i) = some ρ' := h
        cases h
        show some _ = some _
        rw [pute_eq]
        rfl
      | _ =>
        replace h : some (pute ρ (.val _) i) = some ρ' := h
        cases h
        show some _ = some _
        rw [pute_eq]
        rfl
  | tp is => exact asgB_ok (tg := .tp is) h
def nsB (es : E) : LB := E.rec (motive := fun _ => LB)
  (var := fun _ => ⟨fun _ _ => none⟩) (int := fun _ => ⟨fun _ _ => none⟩) (str := fun _ => ⟨fun _ _ => none⟩) (bl := fun _ => ⟨fun _ _ => none⟩) (non := ⟨fun _ _ => none⟩) (gint := fun _ _ => ⟨fun _ _ => none⟩) (tup := fun _ _ => ⟨fun _ _ => none⟩) (lst := fun _ _ => ⟨fun _ _ => none⟩)
  (nil := ⟨fun _ _ => some []⟩) (cons := fun e _ _ ih => LB.rec (motive := fun _ => LB) (fun r => FB.rec (motive := fun _ => LB) (fun t f _ _ => Bool.rec (motive := fun _ => LB)
    ⟨fun c ρ => (f c ρ) >>= fun d => (r c ρ) >>= fun ss => some (Sd.val d :: ss)⟩ ⟨fun c ρ => (t c ρ) >>= fun d => (r c ρ) >>= fun ss => some (mkSd d :: ss)⟩ e.isNew) (hE e)) ih)
  (bin := fun _ _ _ _ _ => ⟨fun _ _ => none⟩) (neg := fun _ _ => ⟨fun _ _ => none⟩) (not := fun _ _ => ⟨fun _ _ => none⟩) (and := fun _ _ _ _ => ⟨fun _ _ => none⟩) (or := fun _ _ _ _ => ⟨fun _ _ => none⟩) (cmp := fun _ _ _ _ _ => ⟨fun _ _ => none⟩) (chn := fun _ _ _ _ _ _ _ _ => ⟨fun _ _ => none⟩)
  (ite := fun _ _ _ _ _ _ => ⟨fun _ _ => none⟩) (call := fun _ _ _ => ⟨fun _ _ => none⟩) (blt := fun _ _ _ => ⟨fun _ _ => none⟩) (ix := fun _ _ _ _ => ⟨fun _ _ => none⟩) (sl := fun _ _ _ _ _ _ => ⟨fun _ _ => none⟩) (rev := fun _ _ => ⟨fun _ _ => none⟩) (comp := fun _ _ _ _ _ _ _ _ => ⟨fun _ _ => none⟩) (rng := fun _ _ => ⟨fun _ _ => none⟩) es
theorem nsB_ok {c : PC} {call : Nat → List D → DS → R D} (hc : PCok c call) : ∀ (es : E) (ρ : En) (ss : List Sd), (nsB es).f c ρ = some ss → ∃ ls, sls ss = ls.map some ∧ ∀ t, evNs call es ρ.toL t = some (ls, t) := by
  intro es
  induction es with
  | nil => intro ρ ss h; cases h; exact ⟨[], rfl, fun t => rfl⟩
  | cons e es _ ih =>
    intro ρ ss h
    have he := hE_ok hc e
    replace h : (LB.rec (motive := fun _ => LB) (fun r => FB.rec (motive := fun _ => LB) (fun t f _ _ => Bool.rec (motive := fun _ => LB)
      ⟨fun c ρ => bnd (f c ρ) fun d => bnd (r c ρ) fun ss => some (Sd.val d :: ss)⟩ ⟨fun c ρ => bnd (t c ρ) fun d => bnd (r c ρ) fun ss => some (mkSd d :: ss)⟩ e.isNew) (hE e)) (nsB es)).f c ρ = some ss := h
    revert he ih h
    generalize hE e = A
    generalize nsB es = L
    cases A
    cases L
    intro ih he h
    cases hn : e.isNew with
    | true =>
      rw [hn] at h
      obtain ⟨d, h1, h2⟩ := bnd_some h
      obtain ⟨ss', h3, h4⟩ := bnd_some h2
      cases h4
      obtain ⟨ls, e1, e2⟩ := ih _ _ h3
      refine ⟨mkSl true d :: ls, ?_, fun t => ?_⟩
      · show (mkSd d).sl :: sls ss' = some (mkSl true d) :: ls.map some
        rw [mkSd_eq, e1]
      · simp only [evNs, hn, he.t _ _ h1, e2]
    | false =>
      rw [hn] at h
      obtain ⟨d, h1, h2⟩ := bnd_some h
      obtain ⟨ss', h3, h4⟩ := bnd_some h2
      cases h4
      obtain ⟨ls, e1, e2⟩ := ih _ _ h3
      refine ⟨.val d :: ls, ?_, fun t => ?_⟩
      · show some (Sl.val d) :: sls ss' = some (Sl.val d) :: ls.map some
        rw [e1]
      · simp only [evNs, hn, he.f _ _ h1, e2]
        rfl
  | _ => intro ρ ss h; cases h
def setNB (is : List Nat) : TB := List.rec (motive := fun _ => TB) ⟨fun ss ρ => List.rec (motive := fun _ => Option En) (some ρ) (fun _ _ _ => none) ss⟩
  (fun i _ ih => TB.rec (motive := fun _ => TB) (fun r => PB.rec (motive := fun _ => TB) (fun p => ⟨fun ss ρ => List.rec (motive := fun _ => Option En) none (fun s ss _ => r ss (p ρ s)) ss⟩) (putB i)) ih) is
theorem setNB_ok : ∀ (is : List Nat) (ss : List Sd) (ls : List Sl) (ρ ρ' : En), sls ss = ls.map some → (setNB is).f ss ρ = some ρ' → setN is ls ρ.toL = some ρ'.toL
  | [], [], [], ρ, ρ', e, h => by cases h; rfl
  | [], [], _ :: _, ρ, ρ', e, h => by cases e
  | [], _ :: _, _, ρ, ρ', e, h => by cases h
  | _ :: _, [], _, ρ, ρ', e, h => by cases h
  | i :: is, s :: ss, [], ρ, ρ', e, h => by cases e
  | i :: is, s :: ss, l :: ls, ρ, ρ', e, h => by
    replace e : s.sl :: sls ss = some l :: ls.map some := e
    injection e with e1 e2
    have h2 := setNB_ok is ss ls (pute ρ s i) ρ' e2 h
    rw [pute_eq, e1] at h2
    exact h2
def ffor (f : D → En → Option Fh) (ds : List D) : En → Option Fh := List.rec (motive := fun _ => En → Option Fh) (fun ρ => some (.nx ρ)) (fun d _ ih ρ => (f d ρ) >>= fun fl => Fh.rec (motive := fun _ => Option Fh) (fun ρ => ih ρ) (fun d => some (.rt d)) (fun ρ => some (.nx ρ)) (fun ρ => ih ρ) fl) ds
def fwhile (c : En → Option Bool) (f : En → Option Fh) (fz : En → En) (n : Nat) : En → Option Fh := Nat.rec (motive := fun _ => En → Option Fh) (fun _ => none) (fun _ ih ρ => (c (fz ρ)) >>= fun k => Bool.rec (motive := fun _ => Option Fh) (some (.nx (fz ρ)))
  ((f (fz ρ)) >>= fun fl => Fh.rec (motive := fun _ => Option Fh) (fun ρ => ih ρ) (fun d => some (.rt d)) (fun ρ => some (.nx ρ)) (fun ρ => ih ρ) fl) k) n
def ownS (o : Sd) : Option (List D) := Sd.rec (motive := fun _ => Option (List D)) none (fun _ => none) (fun ds => some ds) o
theorem ownS_ok {ρ : En} {i : Nat} {ds : List D} (h : ownS (gete ρ i) = some ds) : ownOf ρ.toL i = some ds := by
  cases e : gete ρ i with
  | no => rw [e] at h; cases h
  | own es => rw [e] at h; cases h; unfold ownOf; rw [gete_own e]
  | val d => rw [e] at h; cases h
def valS (o : Sd) : Option D := Sd.rec (motive := fun _ => Option D) none (fun d => some d) (fun _ => none) o
def pSeq (A B : SB) : SB := SB.rec (motive := fun _ => SB) (fun a => SB.rec (motive := fun _ => SB) (fun b => ⟨fun c W ρ => (a c W ρ) >>= fun fl => Fh.rec (motive := fun _ => Option Fh) (fun ρ => b c W ρ) (fun d => some (.rt d)) (fun ρ => some (.bk ρ)) (fun ρ => some (.ct ρ)) fl⟩) B) A
def pFrz (is : List Nat) (A : SB) : SB := SB.rec (motive := fun _ => SB) (fun a => WB.rec (motive := fun _ => SB) (fun w => ⟨fun c W ρ => a c W (w ρ)⟩) (frzB is)) A
def pAsg (tg : T) (e : E) : SB := FB.rec (motive := fun _ => SB) (fun t f _ _ => AB.rec (motive := fun _ => SB) (fun ag => Bool.rec (motive := fun _ => SB) ⟨fun c _ ρ => (f c ρ) >>= fun d => (ag d ρ) >>= fun ρ => some (.nx ρ)⟩ ⟨fun c _ ρ => (t c ρ) >>= fun d => (ag d ρ) >>= fun ρ => some (.nx ρ)⟩ e.isNew) (asvB tg e.isNew)) (hE e)
def pPar (is : List Nat) (es : E) : SB := LB.rec (motive := fun _ => SB) (fun l => TB.rec (motive := fun _ => SB) (fun s => ⟨fun c _ ρ => (l c ρ) >>= fun ss => (s ss ρ) >>= fun ρ => some (.nx ρ)⟩) (setNB is)) (nsB es)
def pAug (i : Nat) (neg : Bool) (e : E) : SB := FB.rec (motive := fun _ => SB) (fun t _ _ _ => ⟨fun c _ ρ => (valS (gete ρ i)) >>= fun x => (D.rec (motive_1 := fun _ => Option Fh) (motive_2 := fun _ => PUnit.{1}) (none) (fun _ => none) (fun x => (t c ρ) >>= fun y => (D.rec (motive_1 := fun _ => Option Fh) (motive_2 := fun _ => PUnit.{1}) (none) (fun _ => none) (fun y => nfI (Bool.rec (motive := fun _ => Int) (iadd x y) (isub x y) neg) fun z => some (.nx (pute ρ (.val (.int z)) i))) (fun _ => none) (fun _ _ => none) (fun _ _ => none) (none) PUnit.unit (fun _ _ _ _ => PUnit.unit) y)) (fun _ => none) (fun _ _ => none) (fun _ _ => none) (none) PUnit.unit (fun _ _ _ _ => PUnit.unit) x)⟩) (hE e)
def pSetix (i : Nat) (ix e : E) : SB := FB.rec (motive := fun _ => SB) (fun _ f _ _ => FB.rec (motive := fun _ => SB) (fun xt _ _ _ => ⟨fun c _ ρ => (f c ρ) >>= fun d => (ownS (gete ρ i)) >>= fun ds => (xt c ρ) >>= fun k => match k with
  | .int k => (L2.ixN ds.length k) >>= fun j => fls (ds.set j d) fun l => some (.nx (pute ρ (.own l) i))
  | _ => none⟩) (hE ix)) (hE e)
def pApp (i : Nat) (e : E) : SB := FB.rec (motive := fun _ => SB) (fun _ f _ _ => ⟨fun c _ ρ => (ownS (gete ρ i)) >>= fun ds => (f c ρ) >>= fun d => Bool.rec (motive := fun _ => Option Fh) none (fls (fapp ds [d]) fun l => some (.nx (pute ρ (.own l) i))) (Nat.ble (Nat.succ (flen ds)) (nat_lit 16777216))⟩) (hE e)
def pExt (i : Nat) (e : E) : SB := FB.rec (motive := fun _ => SB) (fun t _ _ _ => ⟨fun c _ ρ => (ownS (gete ρ i)) >>= fun ds => (t c ρ) >>= fun x => (pSeqOf x) >>= fun es => Bool.rec (motive := fun _ => Option Fh) none (fls (fapp ds es) fun l => some (.nx (pute ρ (.own l) i))) (Nat.ble (Nat.add (flen ds) (flen es)) line)⟩) (hE e)
def pIns (i : Nat) (k e : E) : SB := FB.rec (motive := fun _ => SB) (fun kt _ _ _ => FB.rec (motive := fun _ => SB) (fun _ f _ _ => ⟨fun c _ ρ => (ownS (gete ρ i)) >>= fun ds => (kt c ρ) >>= fun x => match x with
  | .int (.ofNat k) => (f c ρ) >>= fun d => Bool.rec (motive := fun _ => Option Fh) none (Bool.rec (motive := fun _ => Option Fh) none (fls (fapp (ftake ds k) (d :: fdrop ds k)) fun l => some (.nx (pute ρ (.own l) i))) (Nat.ble (Nat.succ k) (nat_lit 9223372036854775808))) (Nat.ble (Nat.succ (flen ds)) (nat_lit 16777216))
  | _ => none⟩) (hE e)) (hE k)
def pIf (e : E) (A B : SB) : SB := FB.rec (motive := fun _ => SB) (fun t _ _ _ => SB.rec (motive := fun _ => SB) (fun a => SB.rec (motive := fun _ => SB) (fun b => ⟨fun c W ρ => (t c ρ) >>= fun x => (htr x) >>= fun k => Bool.rec (motive := fun _ => Option Fh) (b c W ρ) (a c W ρ) k⟩) B) A) (hE e)
def pWhile (fz : List Nat) (e : E) (A : SB) : SB := FB.rec (motive := fun _ => SB) (fun t _ _ _ => SB.rec (motive := fun _ => SB) (fun a => WB.rec (motive := fun _ => SB) (fun w => ⟨fun c W ρ => fwhile (fun ρ => (t c ρ) >>= htr) (fun ρ => a c W ρ) w W ρ⟩) (frzB fz)) A) (hE e)
def pFor (tg : T) (it : E) (A : SB) : SB := FB.rec (motive := fun _ => SB) (fun _ f _ _ => SB.rec (motive := fun _ => SB) (fun a => AB.rec (motive := fun _ => SB) (fun ag => ⟨fun c W ρ => (f c ρ) >>= fun x => (pSeqOf x) >>= fun ds => ffor (fun d ρ => (ag d ρ) >>= fun ρ => a c W ρ) ds ρ⟩) (asgB tg)) A) (hE it)
def pRet (e : E) : SB := FB.rec (motive := fun _ => SB) (fun _ f _ _ => ⟨fun c _ ρ => (f c ρ) >>= fun d => some (.rt d)⟩) (hE e)
def hS (s : S) : SB := S.rec (motive := fun _ => SB)
  (nil := ⟨fun _ _ ρ => some (.nx ρ)⟩)
  (seq := fun _ _ A B => pSeq A B)
  (frz := fun is _ A => pFrz is A)
  (asg := fun tg e => pAsg tg e)
  (par := fun is es => pPar is es)
  (aug := fun i neg e => pAug i neg e)
  (setix := fun i ix e => pSetix i ix e)
  (app := fun i e => pApp i e)
  (ext := fun i e => pExt i e)
  (ins := fun i k e => pIns i k e)
  (ifS := fun e _ _ A B => pIf e A B)
  (whileS := fun fz e _ A => pWhile fz e A)
  (forS := fun tg it _ A => pFor tg it A)
  (ret := fun e => pRet e)
  (brk := ⟨fun _ _ ρ => some (.bk ρ)⟩)
  (cont := ⟨fun _ _ ρ => some (.ct ρ)⟩)
  (bad := ⟨fun _ _ _ => none⟩)
  s
def SOk (c : PC) (call : Nat → List D → DS → R D) (W : Nat) (s : S) (A : SB) : Prop := ∀ (ρ : En) (fl : Fh), A.f c W ρ = some fl → ∀ t, exec call W s ρ.toL t = some (fl.toFl, t)
section
variable {c : PC} {call : Nat → List D → DS → R D} {W : Nat}
theorem ffor_ok {f : D → En → Option Fh} {g : D → EnvD → DS → R Fl} (hf : ∀ d ρ fl, f d ρ = some fl → ∀ t, g d ρ.toL t = some (fl.toFl, t)) : ∀ (ds : List D) (ρ : En) (fl : Fh), ffor f ds ρ = some fl → ∀ t, forL g ds ρ.toL t = some (fl.toFl, t)
  | [], ρ, fl, h, t => by cases h; rfl
  | d :: ds, ρ, fl, h, t => by
    obtain ⟨fl', h1, h2⟩ := bnd_some (show bnd (f d ρ) (fun fl => Fh.rec (motive := fun _ => Option Fh) (fun ρ => ffor f ds ρ) (fun d => some (.rt d)) (fun ρ => some (.nx ρ)) (fun ρ => ffor f ds ρ) fl) = some fl from h)
    unfold forL
    rw [hf d ρ fl' h1 t]
    cases fl' with
    | nx ρ' => exact ffor_ok hf ds ρ' fl h2 t
    | ct ρ' => exact ffor_ok hf ds ρ' fl h2 t
    | bk ρ' => cases h2; rfl
    | rt d' => cases h2; rfl
theorem fwhile_ok {cd : En → Option Bool} {f : En → Option Fh} {w : En → En} {c' : EnvD → DS → R Bool} {g : EnvD → DS → R Fl} {fz : List Nat} (hw : ∀ ρ, (w ρ).toL = frz ρ.toL fz) (hcc : ∀ ρ k, cd ρ = some k → ∀ t, c' ρ.toL t = some (k, t)) (hf : ∀ ρ fl, f ρ = some fl → ∀ t, g ρ.toL t = some (fl.toFl, t)) :
    ∀ (n : Nat) (ρ : En) (fl : Fh), fwhile cd f w n ρ = some fl → ∀ t, whileL c' g fz n ρ.toL t = some (fl.toFl, t)
  | 0, ρ, fl, h, t => by cases h
  | n + 1, ρ, fl, h, t => by
    obtain ⟨k, h1, h2⟩ := bnd_some (show bnd (cd (w ρ)) (fun k => Bool.rec (motive := fun _ => Option Fh) (some (.nx (w ρ)))
      (bnd (f (w ρ)) fun fl => Fh.rec (motive := fun _ => Option Fh) (fun ρ => fwhile cd f w n ρ) (fun d => some (.rt d)) (fun ρ => some (.nx ρ)) (fun ρ => fwhile cd f w n ρ) fl) k) = some fl from h)
    have e1 := hcc _ _ h1 t
    rw [hw] at e1
    unfold whileL
    rw [e1]
    cases k with
    | false =>
      cases h2
      show some (Fl.nx (frz ρ.toL fz), t) = some (Fl.nx (w ρ).toL, t)
      rw [hw]
    | true =>
      obtain ⟨fl', h3, h4⟩ := bnd_some h2
      have e2 := hf _ _ h3 t
      rw [hw] at e2
      simp only [e2]
      cases fl' with
      | nx ρ' => exact fwhile_ok hw hcc hf n ρ' fl h4 t
      | ct ρ' => exact fwhile_ok hw hcc hf n ρ' fl h4 t
      | bk ρ' => cases h4; rfl
      | rt d' => cases h4; rfl
theorem hS_ok (hc : PCok c call) (s : S) : SOk c call W s (hS s) := by
  have tru : ∀ {d k}, htr d = some k → truth d = some k := fun h => by rw [← htr_eq]; exact h
  have tt : ∀ {e : E} {A : FB} {ρ : En} {k : Bool}, HOk c call e A → bnd (A.t c ρ) htr = some k → ∀ t, tst (evE call e true ρ.toL t) = some (k, t) := fun {e A ρ k} ih h t => by
    obtain ⟨x, h1, h2⟩ := bnd_some h
    rw [ih.t _ _ h1 t]
    unfold tst
    simp only [tru h2]
  induction s with
  | nil => intro ρ fl h t; cases h; rfl
  | seq a b iha ihb =>
    show SOk c call W (.seq a b) (pSeq (hS a) (hS b))
    revert iha ihb
    generalize hS a = A
    generalize hS b = B
    cases A
    cases B
    intro iha ihb ρ fl h t
    obtain ⟨fl', h1, h2⟩ := bnd_some h
    simp only [exec, iha _ _ h1 t]
    cases fl' with
    | nx ρ' => exact ihb _ _ h2 t
    | _ => cases h2; rfl
  | frz is a ih =>
    show SOk c call W (.frz is a) (pFrz is (hS a))
    revert ih
    generalize hS a = A
    cases A
    intro ih ρ fl h t
    simp only [exec]
    rw [← frzB_eq]
    exact ih _ _ h t
  | asg tg e =>
    show SOk c call W (.asg tg e) (pAsg tg e)
    have he := hE_ok hc e
    unfold pAsg
    revert he
    generalize hE e = A
    cases A
    intro he ρ fl h t
    cases hn : e.isNew with
    | true =>
      rw [hn] at h
      obtain ⟨d, h1, h2⟩ := bnd_some h
      obtain ⟨ρ', h3, h4⟩ := bnd_some h2
      cases h4
      replace h3 : (asvB tg true).f d ρ = some ρ' := h3
      simp only [exec, hn, he.t _ _ h1, asvB_ok h3]
      rfl
    | false =>
      rw [hn] at h
      obtain ⟨d, h1, h2⟩ := bnd_some h
      obtain ⟨ρ', h3, h4⟩ := bnd_some h2
      cases h4
      replace h3 : (asvB tg false).f d ρ = some ρ' := h3
      simp only [exec, hn, he.f _ _ h1, asvB_ok h3]
      rfl
  | par is es =>
    show SOk c call W (.par is es) (pPar is es)
    intro ρ fl h t
    obtain ⟨ss, h1, h2⟩ := bnd_some h
    obtain ⟨ρ', h3, h4⟩ := bnd_some h2
    cases h4
    replace h3 : (setNB is).f ss ρ = some ρ' := h3
    obtain ⟨ls, e1, e2⟩ := nsB_ok hc _ _ _ h1
    simp only [exec, e2, setNB_ok _ _ _ _ _ e1 h3]
    rfl
  | aug i neg e =>
    show SOk c call W (.aug i neg e) (pAug i neg e)
    have he := hE_ok hc e
    unfold pAug
    revert he
    generalize hE e = A
    cases A
    intro he ρ fl h t
    obtain ⟨x, h1, h2⟩ := bnd_some h
    have hx : ρ.toL[i]? = some (some (.val x)) := by
      cases eg : gete ρ i with
      | no => rw [eg] at h1; cases h1
      | own ds => rw [eg] at h1; cases h1
      | val d => rw [eg] at h1; cases h1; exact gete_val eg
    cases x <;> first
      | (cases h2; done)
      | skip
    obtain ⟨d, h3, h4⟩ := bnd_some h2
    cases d <;> first
      | (cases h4; done)
      | skip
    rename_i x y
    replace h4 : nfI (Bool.rec (motive := fun _ => Int) (iadd x y) (isub x y) neg) (fun z => some (Fh.nx (pute ρ (.val (.int z)) i))) = some fl := h4
    rw [nfI_eq] at h4
    cases h4
    simp only [exec, hx, he.t _ _ h3, Fh.toFl]
    rw [pute_eq]
    cases neg with
    | true => rw [isub_eq]; rfl
    | false => rw [iadd_eq]; rfl
  | setix i ix e =>
    show SOk c call W (.setix i ix e) (pSetix i ix e)
    have he := hE_ok hc e
    have hx := hE_ok hc ix
    unfold pSetix
    revert he hx
    generalize hE e = A
    generalize hE ix = B
    cases A
    cases B
    intro he hx ρ fl h t
    obtain ⟨d, h1, h2⟩ := bnd_some h
    obtain ⟨ds, h3, h4⟩ := bnd_some h2
    obtain ⟨k, h5, h6⟩ := bnd_some h4
    split at h6
    · obtain ⟨j, h7, h8⟩ := bnd_some h6
      rw [fls_eq] at h8
      cases h8
      simp only [exec, he.f _ _ h1, ownS_ok h3, hx.t _ _ h5, h7, Fh.toFl]
      rw [pute_eq]
      rfl
    · cases h6
  | app i e =>
    show SOk c call W (.app i e) (pApp i e)
    have he := hE_ok hc e
    unfold pApp
    revert he
    generalize hE e = A
    cases A
    intro he ρ fl h t
    obtain ⟨ds, h1, h2⟩ := bnd_some h
    obtain ⟨d, h3, h4⟩ := bnd_some h2
    cases hl : Nat.ble (Nat.succ (flen ds)) 16777216 with
    | false => rw [hl] at h4; cases h4
    | true =>
      rw [hl] at h4
      replace h4 : fls (fapp ds [d]) (fun l => some (Fh.nx (pute ρ (.own l) i))) = some fl := h4
      rw [fls_eq] at h4
      cases h4
      have hl2 : ds.length < line := by
        have := Nat.le_of_ble_eq_true hl
        rw [flen_eq] at this
        exact this
      simp only [exec, ownS_ok h1, he.f _ _ h3, if_pos hl2, Fh.toFl]
      rw [pute_eq, fapp_eq]
      rfl
  | ext i e =>
    show SOk c call W (.ext i e) (pExt i e)
    have he := hE_ok hc e
    unfold pExt
    revert he
    generalize hE e = A
    cases A
    intro he ρ fl h t
    obtain ⟨ds, h1, h2⟩ := bnd_some h
    obtain ⟨x, h3, h4⟩ := bnd_some h2
    obtain ⟨es, h5, h6⟩ := bnd_some h4
    rw [pSeqOf_eq] at h5
    cases hl : Nat.ble (Nat.add (flen ds) (flen es)) line with
    | false => rw [hl] at h6; cases h6
    | true =>
      rw [hl] at h6
      replace h6 : fls (fapp ds es) (fun l => some (Fh.nx (pute ρ (.own l) i))) = some fl := h6
      rw [fls_eq] at h6
      cases h6
      have hl2 : ds.length + es.length ≤ line := by
        have := Nat.le_of_ble_eq_true hl
        rw [flen_eq, flen_eq] at this
        exact this
      simp only [exec, ownS_ok h1, he.t _ _ h3, h5, if_pos hl2, Fh.toFl]
      rw [pute_eq, fapp_eq]
      rfl
  | ins i k e =>
    show SOk c call W (.ins i k e) (pIns i k e)
    have he := hE_ok hc e
    have hk := hE_ok hc k
    unfold pIns
    revert he hk
    generalize hE e = A
    generalize hE k = B
    cases A
    cases B
    intro he hk ρ fl h t
    obtain ⟨ds, h1, h2⟩ := bnd_some h
    obtain ⟨x, h3, h4⟩ := bnd_some h2
    split at h4
    · rename_i kk
      obtain ⟨d, h5, h6⟩ := bnd_some h4
      cases hl : Nat.ble (Nat.succ (flen ds)) 16777216 with
      | false => rw [hl] at h6; cases h6
      | true =>
        rw [hl] at h6
        cases hq : Nat.ble (Nat.succ kk) 9223372036854775808 with
        | false => rw [hq] at h6; cases h6
        | true =>
          rw [hq] at h6
          replace h6 : fls (fapp (ftake ds kk) (d :: fdrop ds kk)) (fun l => some (Fh.nx (pute ρ (.own l) i))) = some fl := h6
          rw [fls_eq] at h6
          cases h6
          have hl2 : ds.length < line := by
            have := Nat.le_of_ble_eq_true hl
            rw [flen_eq] at this
            exact this
          have hk2 : kk + 1 ≤ 9223372036854775808 := Nat.le_of_ble_eq_true hq
          simp only [exec, ownS_ok h1, hk.t _ _ h3, he.f _ _ h5, Fh.toFl]
          rw [if_pos ⟨hl2, by simp, by simp only [Int.ofNat_eq_natCast]; omega⟩, pute_eq, fapp_eq, ftake_eq, fdrop_eq]
          simp [Sd.sl]
    · cases h4
  | ifS e a b iha ihb =>
    show SOk c call W (.ifS e a b) (pIf e (hS a) (hS b))
    have he := hE_ok hc e
    unfold pIf
    revert he iha ihb
    generalize hE e = A
    generalize hS a = B
    generalize hS b = C
    cases A
    cases B
    cases C
    intro iha ihb he ρ fl h t
    obtain ⟨x, h1, h2⟩ := bnd_some h
    obtain ⟨k, h3, h4⟩ := bnd_some h2
    have ht : tst (evE call e true ρ.toL t) = some (k, t) := by
      rw [he.t _ _ h1 t]
      unfold tst
      simp only [tru h3]
    simp only [exec, ht]
    cases k with
    | true => exact iha _ _ h4 t
    | false => exact ihb _ _ h4 t
  | whileS fz e b ih =>
    show SOk c call W (.whileS fz e b) (pWhile fz e (hS b))
    have he := hE_ok hc e
    unfold pWhile
    revert he ih
    generalize hE e = A
    generalize hS b = B
    cases A
    rename_i at_ af ats afs
    cases B
    rename_i b1
    intro ih he ρ fl h t
    simp only [exec]
    exact fwhile_ok (cd := fun ρ => bnd (at_ c ρ) htr) (f := fun ρ => b1 c W ρ) (w := (frzB fz).f) (fun ρ => frzB_eq fz ρ) (fun ρ k hk t => tt he hk t) (fun ρ fl hf t => ih ρ fl hf t) W ρ fl h t
  | forS tg it b ih =>
    show SOk c call W (.forS tg it b) (pFor tg it (hS b))
    have he := hE_ok hc it
    unfold pFor
    revert he ih
    generalize hE it = A
    generalize hS b = B
    cases A
    cases B
    intro ih he ρ fl h t
    obtain ⟨x, h1, h2⟩ := bnd_some h
    obtain ⟨ds, h3, h4⟩ := bnd_some h2
    rw [pSeqOf_eq] at h3
    simp only [exec, he.f _ _ h1, h3]
    refine ffor_ok (fun d ρ fl hd t => ?_) ds ρ fl h4 t
    obtain ⟨ρ', g1, g2⟩ := bnd_some hd
    replace g1 : (asgB tg).f d ρ = some ρ' := g1
    unfold forF
    rw [asgB_ok g1]
    exact ih _ _ g2 t
  | ret e =>
    show SOk c call W (.ret e) (pRet e)
    have he := hE_ok hc e
    unfold pRet
    revert he
    generalize hE e = A
    cases A
    intro he ρ fl h t
    obtain ⟨d, h1, h2⟩ := bnd_some h
    cases h2
    simp only [exec, he.f _ _ h1, Fh.toFl]
  | brk => intro ρ fl h t; cases h; rfl
  | cont => intro ρ fl h t; cases h; rfl
  | bad => intro ρ fl h t; cases h
end
end
end Ev

/-! Ev23: the evaluator for the kernel: defs, by ranks. -/
namespace Ev
open PySem (Str CmpOp)
noncomputable section
local macro_rules | `($o >>= $k) => `(Option.rec (motive := fun _ => Option _) none $k $o)
def fend (o : Option Fh) : Option D := bnd o fun fl => Fh.rec (motive := fun _ => Option D) (fun _ => some .non) (fun v => some v) (fun _ => none) (fun _ => none) fl
/-- the frame at a call: the arguments in order, thirteen slots in all -/
structure RB where
  f : List D → Option En
def frmB (n : Nat) : RB := match n with
  | 0 => ⟨fun r0 => List.rec (motive := fun _ => Option En) (some ⟨.no, .no, .no, .no, .no, .no, .no, .no, .no, .no, .no, .no, .no⟩) (fun _ _ _ => none) r0⟩
  | 1 => ⟨fun r0 => List.rec (motive := fun _ => Option En) none (fun a r1 _ => List.rec (motive := fun _ => Option En) (some ⟨.val a, .no, .no, .no, .no, .no, .no, .no, .no, .no, .no, .no, .no⟩) (fun _ _ _ => none) r1) r0⟩
  | 2 => ⟨fun r0 => List.rec (motive := fun _ => Option En) none (fun a r1 _ => List.rec (motive := fun _ => Option En) none (fun b r2 _ => List.rec (motive := fun _ => Option En) (some ⟨.val a, .val b, .no, .no, .no, .no, .no, .no, .no, .no, .no, .no, .no⟩) (fun _ _ _ => none) r2) r1) r0⟩
  | 3 => ⟨fun r0 => List.rec (motive := fun _ => Option En) none (fun a r1 _ => List.rec (motive := fun _ => Option En) none (fun b r2 _ => List.rec (motive := fun _ => Option En) none (fun c r3 _ => List.rec (motive := fun _ => Option En) (some ⟨.val a, .val b, .val c, .no, .no, .no, .no, .no, .no, .no, .no, .no, .no⟩) (fun _ _ _ => none) r3) r2) r1) r0⟩
  | 4 => ⟨fun r0 => List.rec (motive := fun _ => Option En) none (fun a r1 _ => List.rec (motive := fun _ => Option En) none (fun b r2 _ => List.rec (motive := fun _ => Option En) none (fun c r3 _ => List.rec (motive := fun _ => Option En) none (fun d r4 _ => List.rec (motive := fun _ => Option En) (some ⟨.val a, .val b, .val c, .val d, .no, .no, .no, .no, .no, .no, .no, .no, .no⟩) (fun _ _ _ => none) r4) r3) r2) r1) r0⟩
  | 5 => ⟨fun r0 => List.rec (motive := fun _ => Option En) none (fun a r1 _ => List.rec (motive := fun _ => Option En) none (fun b r2 _ => List.rec (motive := fun _ => Option En) none (fun c r3 _ => List.rec (motive := fun _ => Option En) none (fun d r4 _ => List.rec (motive := fun _ => Option En) none (fun e r5 _ => List.rec (motive := fun _ => Option En) (some ⟨.val a, .val b, .val c, .val d, .val e, .no, .no, .no, .no, .no, .no, .no, .no⟩) (fun _ _ _ => none) r5) r4) r3) r2) r1) r0⟩
  | _ => ⟨fun _ => none⟩
theorem frmB_ok {n : Nat} {ds : List D} {ρ : En} (h : (frmB n).f ds = some ρ) : startE 13 ds = ρ.toL ∧ ds.length = n := by
  unfold frmB at h
  split at h
  · match ds, h with
    | [], h => cases h; exact ⟨rfl, rfl⟩
  · match ds, h with
    | [a], h => cases h; exact ⟨rfl, rfl⟩
  · match ds, h with
    | [a, b], h => cases h; exact ⟨rfl, rfl⟩
  · match ds, h with
    | [a, b, c], h => cases h; exact ⟨rfl, rfl⟩
  · match ds, h with
    | [a, b, c, d], h => cases h; exact ⟨rfl, rfl⟩
  · match ds, h with
    | [a, b, c, d, e], h => cases h; exact ⟨rfl, rfl⟩
  · cases h
def fdf (tbl : List Df) : Nat → Option Df := List.rec (motive := fun _ => Nat → Option Df) (fun _ => none) (fun x _ ih i => Nat.rec (motive := fun _ => Option Df) (some x) (fun n _ => ih n) i) tbl
theorem fdf_eq : ∀ (tbl : List Df) (i : Nat), fdf tbl i = tbl[i]?
  | [], i => rfl
  | x :: tbl, 0 => rfl
  | x :: tbl, i + 1 => fdf_eq tbl i
structure Box where
  f : PC
/-- a def made ready -/
structure DB where
  f : PC → List D → Option D
def defOf (d : Df) : DB := Bool.rec (motive := fun _ => DB) ⟨fun _ _ => none⟩ (SB.rec (motive := fun _ => DB) (fun s => RB.rec (motive := fun _ => DB) (fun r => ⟨fun c args => (r args) >>= fun ρ => fend (s c d.W ρ)⟩) (frmB d.ps)) (hS d.body)) (Nat.beq d.N.length 13)
def dfB (tk : Nat) (tbl : List Df) (f : Nat) : DB := Bool.rec (motive := fun _ => DB) (Option.rec (motive := fun _ => DB) ⟨fun _ _ => none⟩ defOf (fdf tbl f)) ⟨fun _ _ => none⟩ (Nat.beq f tk)
def fst (tk : Nat) (tbl : List Df) (c : PC) : PC := fun f args => DB.rec (motive := fun _ => Option D) (fun g => g c args) (dfB tk tbl f)
theorem fst_ok {tk : Nat} {tbl : List Df} {c : PC} {n : Nat} (hc : PCok c (run tk tbl n)) : PCok (fst tk tbl c) (run tk tbl (n + 1)) := by
  intro f args v h t
  unfold fst dfB at h
  cases hb : Nat.beq f tk with
  | true => rw [hb] at h; cases h
  | false =>
    rw [hb] at h
    have hne : (f == tk) = false := beq_false_of_ne fun q => by
      subst q
      rw [Nat.beq_refl] at hb
      cases hb
    rw [fdf_eq] at h
    unfold run
    rw [hne]
    cases hd : tbl[f]? with
    | none => rw [hd] at h; cases h
    | some d =>
      rw [hd] at h
      replace h : (DB.rec (motive := fun _ => Option D) (fun g => g c args) (defOf d)) = some v := h
      unfold defOf at h
      cases hN : Nat.beq d.N.length 13 with
      | false => rw [hN] at h; cases h
      | true =>
        rw [hN] at h
        have hN2 : d.N.length = 13 := Nat.eq_of_beq_eq_true hN
        have hs := hS_ok (W := d.W) hc d.body
        replace h : (DB.rec (motive := fun _ => Option D) (fun g => g c args) (SB.rec (motive := fun _ => DB) (fun s => RB.rec (motive := fun _ => DB) (fun r => ⟨fun c args => bnd (r args) fun ρ => fend (s c d.W ρ)⟩) (frmB d.ps)) (hS d.body))) = some v := h
        revert hs h
        generalize hS d.body = A
        cases A
        rename_i s
        intro hs h
        obtain ⟨ρ, h1, h2⟩ := bnd_some h
        replace h1 : (frmB d.ps).f args = some ρ := h1
        obtain ⟨e1, hl2⟩ := frmB_ok h1
        have hl3 : (args.length == d.ps) = true := by rw [hl2]; exact beq_self_eq_true _
        obtain ⟨fl, h3, h4⟩ := bnd_some h2
        simp only [hl3, hN2]
        rw [e1, hs _ _ h3 t]
        cases fl with
        | rt v' => cases h4; rfl
        | nx ρ => cases h4; rfl
        | bk ρ => cases h4
        | ct ρ => cases h4
def fnn (l : List Nat) : Nat → Nat := List.rec (motive := fun _ => Nat → Nat) (fun _ => 0) (fun x _ ih i => Nat.rec (motive := fun _ => Nat) x (fun n _ => ih n) i) l
/-- a call, its key alike whoever calls -/
def boxed (b : Box) : PC := fun g a => Box.rec (motive := fun _ => Option D) (fun p => Option.rec (motive := fun _ => Option D) none some (p g a)) b
theorem boxed_eq (b : Box) (g : Nat) (a : List D) : boxed b g a = b.f g a := by
  cases b with
  | mk p =>
    show Option.rec (motive := fun _ => Option D) none some (p g a) = p g a
    cases p g a <;> rfl
/-- by depths: a def f is run at rank rk f, so that alike calls are alike terms -/
def fG (tk : Nat) (tbl : List Df) (rk : List Nat) (n : Nat) : Nat → Box := Nat.rec (motive := fun _ => Nat → Box) (fun _ => ⟨fun _ _ => none⟩)
  (fun n ih m => Bool.rec (motive := fun _ => Box) (ih m) ⟨fst tk tbl fun g a => boxed (ih (Bool.rec (motive := fun _ => Nat) n (fnn rk g) (Nat.ble (fnn rk g) n))) g a⟩ (Nat.beq m (Nat.succ n))) n
theorem fG_ok (tk : Nat) (tbl : List Df) (rk : List Nat) : ∀ (n m k : Nat), m ≤ k → PCok (fG tk tbl rk n m).f (run tk tbl k)
  | 0, m, k, hk => fun f ds d h => by cases h
  | n + 1, m, k, hk => by
    cases hm : Nat.beq m (n + 1) with
    | false =>
      have e : fG tk tbl rk (n + 1) m = fG tk tbl rk n m := by
        show Bool.rec (motive := fun _ => Box) (fG tk tbl rk n m) _ (Nat.beq m (n + 1)) = _
        rw [hm]
      rw [e]
      exact fG_ok tk tbl rk n m k hk
    | true =>
      have e1 := Nat.eq_of_beq_eq_true hm
      subst e1
      have e : fG tk tbl rk (n + 1) (n + 1) = ⟨fst tk tbl fun g a => boxed (fG tk tbl rk n (Bool.rec (motive := fun _ => Nat) n (fnn rk g) (Nat.ble (fnn rk g) n))) g a⟩ := by
        show Bool.rec (motive := fun _ => Box) (fG tk tbl rk n (n + 1)) _ (Nat.beq (n + 1) (n + 1)) = _
        rw [hm]
        rfl
      rw [e]
      obtain ⟨k', rfl⟩ : ∃ k', k = k' + 1 := ⟨k - 1, by omega⟩
      refine fst_ok fun g a d h t => ?_
      rw [boxed_eq] at h
      refine fG_ok tk tbl rk n _ k' ?_ g a d h t
      cases hb : Nat.ble (fnn rk g) n with
      | true => have := Nat.le_of_ble_eq_true hb; show fnn rk g ≤ k'; omega
      | false => show n ≤ k'; omega
/-- one call of a def -/
def fC (tk : Nat) (tbl : List Df) (rk : List Nat) (n : Nat) : PC := boxed (fG tk tbl rk n n)
theorem fC_ok (tk : Nat) (tbl : List Df) (rk : List Nat) (n : Nat) : PCok (fC tk tbl rk n) (run tk tbl n) := fun f ds d h => by
  unfold fC at h
  rw [boxed_eq] at h
  exact fG_ok tk tbl rk n n n (Nat.le_refl n) f ds d h
end
end Ev

/-! Ev24: all paths: what a def may give, whatever is drawn. -/
namespace Ev
open PySem (Str CmpOp)
noncomputable section
mutual
def D.same : D → D → Bool
  | .non, .non => true
  | .bl a, .bl b => a == b
  | .int i, .int j => decide (i = j)
  | .str a, .str b => decide (a = b)
  | .tup xs, .tup ys => D.sames xs ys
  | .lst xs, .lst ys => D.sames xs ys
  | .st, .st => true
  | _, _ => false
def D.sames : List D → List D → Bool
  | [], [] => true
  | x :: xs, y :: ys => D.same x y && D.sames xs ys
  | _, _ => false
end
mutual
theorem same_eq : ∀ {a b : D}, D.same a b = true → a = b := by
  intro a b h
  match a, b, h with
  | .non, .non, _ => rfl
  | .bl a, .bl b, h => exact congrArg D.bl (beq_iff_eq.mp h)
  | .int i, .int j, h => exact congrArg D.int (of_decide_eq_true h)
  | .str i, .str j, h => exact congrArg D.str (of_decide_eq_true h)
  | .tup xs, .tup ys, h => exact congrArg D.tup (sames_eq (xs := xs) (ys := ys) h)
  | .lst xs, .lst ys, h => exact congrArg D.lst (sames_eq (xs := xs) (ys := ys) h)
  | .st, .st, _ => rfl
theorem sames_eq : ∀ {xs ys : List D}, D.sames xs ys = true → xs = ys := by
  intro xs ys h
  match xs, ys, h with
  | [], [], _ => rfl
  | x :: xs, y :: ys, h =>
    have h2 : (D.same x y && D.sames xs ys) = true := h
    rw [Bool.and_eq_true] at h2
    rw [same_eq h2.1, sames_eq h2.2]
end
def memD (d : D) (l : List D) : Bool := List.rec (motive := fun _ => Bool) false (fun x _ ih => Bool.rec (motive := fun _ => Bool) ih true (D.same d x)) l
theorem memD_ok {d : D} : ∀ {l : List D}, memD d l = true → d ∈ l
  | [], h => by cases h
  | x :: l, h => by
    replace h : Bool.rec (motive := fun _ => Bool) (memD d l) true (D.same d x) = true := h
    cases e : D.same d x with
    | true => rw [same_eq e]; exact List.mem_cons_self
    | false => rw [e] at h; exact List.mem_cons_of_mem _ (memD_ok h)
/-- each once -/
def ddp (l : List D) : List D := List.rec (motive := fun _ => List D) [] (fun x _ ih => Bool.rec (motive := fun _ => List D) (x :: ih) ih (memD x ih)) l
theorem ddp_ok {d : D} : ∀ {l : List D}, d ∈ l → d ∈ ddp l
  | x :: l, h => by
    show d ∈ Bool.rec (motive := fun _ => List D) (x :: ddp l) (ddp l) (memD x (ddp l))
    cases e : memD x (ddp l) with
    | true =>
      rcases List.mem_cons.mp h with rfl | h
      · exact memD_ok e
      · exact ddp_ok h
    | false =>
      rcases List.mem_cons.mp h with rfl | h
      · exact List.mem_cons_self
      · exact List.mem_cons_of_mem _ (ddp_ok h)
/-! ### all of several -/
def coll {α β : Type} (k : α → Option (List β)) : List α → Option (List β)
  | [] => some []
  | a :: l => match k a with
    | none => none
    | some x => match coll k l with
      | none => none
      | some y => some (x ++ y)
def bal {α β : Type} (o : Option (List α)) (k : α → Option (List β)) : Option (List β) := match o with
  | none => none
  | some l => coll k l
theorem coll_mem {α β : Type} {k : α → Option (List β)} {a : α} : ∀ {l : List α} {M : List β}, coll k l = some M → a ∈ l → ∃ L, k a = some L ∧ ∀ x ∈ L, x ∈ M
  | b :: l, M, h, ha => by
    unfold coll at h
    split at h
    · cases h
    · rename_i x e
      split at h
      · cases h
      · rename_i y e2
        cases h
        rcases List.mem_cons.mp ha with rfl | ha
        · exact ⟨x, e, fun z hz => List.mem_append_left _ hz⟩
        · obtain ⟨L, h1, h2⟩ := coll_mem e2 ha
          exact ⟨L, h1, fun z hz => List.mem_append_right _ (h2 z hz)⟩
theorem bal_some {α β : Type} {o : Option (List α)} {k : α → Option (List β)} {M : List β} (h : bal o k = some M) : ∃ l, o = some l ∧ ∀ a ∈ l, ∃ L, k a = some L ∧ ∀ x ∈ L, x ∈ M := by
  unfold bal at h
  split at h
  · cases h
  · exact ⟨_, rfl, fun a ha => coll_mem h ha⟩
/-- one of them, and the draws go on -/
def AOk {α : Type} (r : R α) (L : List α) : Prop := ∃ a ∈ L, ∃ t, r = some (a, t) ∧ t.cells ≠ []
theorem AOk.mono {α : Type} {r : R α} {L M : List α} (h : AOk r L) (s : ∀ x ∈ L, x ∈ M) : AOk r M := by
  obtain ⟨a, ha, t, h1, h2⟩ := h
  exact ⟨a, s _ ha, t, h1, h2⟩
theorem AOk.one {α : Type} {r : R α} {a : α} {t : DS} (h : r = some (a, t)) (g : t.cells ≠ []) : AOk r [a] := ⟨a, List.mem_singleton.mpr rfl, t, h, g⟩
def ol {α : Type} (o : Option α) : Option (List α) := match o with
  | none => none
  | some a => some [a]
theorem ol_some {α : Type} {o : Option α} {L : List α} (h : ol o = some L) : ∃ a, o = some a ∧ L = [a] := by
  cases o with
  | none => cases h
  | some a => cases h; exact ⟨a, rfl, rfl⟩
abbrev AC := Nat → List D → Option (List D)
def pE (c : PC) (e : E) (b : Bool) (ρ : En) : Option (List D) := ol (match b with
  | true => (hE e).t c ρ
  | false => (hE e).f c ρ)
section
variable (c : PC) (all : AC)
mutual
def aE : E → Bool → En → Option (List D)
  | .tup es, _, ρ => bal (aEs es false ρ) fun ds => if ds.length ≤ line then some [.tup ds] else none
  | .lst es, _, ρ => bal (aEs es false ρ) fun ds => if ds.length ≤ line then some [.lst ds] else none
  | .bin op a b, _, ρ => bal (aE a true ρ) fun x => bal (aE b true ρ) fun y => ol (binF op x y)
  | .not a, _, ρ => bal (aE a true ρ) fun x => ol ((truth x).map fun k => .bl !k)
  | .and a b, m, ρ => bal (aE a m ρ) fun x => match truth x with
    | some true => aE b m ρ
    | some false => some [x]
    | none => none
  | .or a b, m, ρ => bal (aE a m ρ) fun x => match truth x with
    | some true => some [x]
    | some false => aE b m ρ
    | none => none
  | .cmp op a b, _, ρ => bal (aE a true ρ) fun x => bal (aE b true ρ) fun y => ol ((cmpF op x y).map .bl)
  | .ite e a b, m, ρ => bal (aE e true ρ) fun x => match truth x with
    | some true => aE a m ρ
    | some false => aE b m ρ
    | none => none
  | .call f es, _, ρ => bal (aEs es false ρ) fun ds => all f ds
  | .blt f es, _, ρ => bal (aEs es true ρ) fun ds => ol (bltF f ds)
  | .ix a i, _, ρ => bal (aE a true ρ) fun x => bal (aE i true ρ) fun y => ol (ixF x y)
  | e, b, ρ => pE c e b ρ
def aEs : E → Bool → En → Option (List (List D))
  | .nil, _, _ => some [[]]
  | .cons e es, b, ρ => bal (aE e b ρ) fun d => bal (aEs es b ρ) fun ds => some [d :: ds]
  | _, _, _ => none
end
end
def AllOk (all : AC) (call : Nat → List D → DS → R D) : Prop := ∀ f ds L, all f ds = some L → ∀ t : DS, t.cells ≠ [] → AOk (call f ds t) L
section
variable {c : PC} {all : AC} {call : Nat → List D → DS → R D}
theorem pE_ok (hc : PCok c call) {e : E} {b : Bool} {ρ : En} {L : List D} (h : pE c e b ρ = some L) {t : DS} (g : t.cells ≠ []) : AOk (evE call e b ρ.toL t) L := by
  obtain ⟨d, h1, rfl⟩ := ol_some h
  have he := hE_ok hc e
  cases b with
  | true => exact .one (he.t _ _ h1 t) g
  | false => exact .one (he.f _ _ h1 t) g
theorem aE_ok (hc : PCok c call) (ha : AllOk all call) (e : E) :
    (∀ b (ρ : En) L, aE c all e b ρ = some L → ∀ t : DS, t.cells ≠ [] → AOk (evE call e b ρ.toL t) L) ∧
    (∀ b (ρ : En) L, aEs c all e b ρ = some L → ∀ t : DS, t.cells ≠ [] → AOk (evEs call e b ρ.toL t) L) := by
  induction e with
  | tup es ih =>
    refine ⟨fun b ρ L h t g => ?_, fun b ρ L h => by simp [aEs] at h⟩
    unfold aE at h
    obtain ⟨l, h1, h2⟩ := bal_some h
    obtain ⟨ds, m, t1, e1, g1⟩ := ih.2 _ _ _ h1 t g
    obtain ⟨L', h3, h4⟩ := h2 _ m
    split at h3
    · rename_i hl
      cases h3
      refine (AOk.one ?_ g1).mono h4
      simp only [evE, e1, if_pos hl]
    · cases h3
  | lst es ih =>
    refine ⟨fun b ρ L h t g => ?_, fun b ρ L h => by simp [aEs] at h⟩
    unfold aE at h
    obtain ⟨l, h1, h2⟩ := bal_some h
    obtain ⟨ds, m, t1, e1, g1⟩ := ih.2 _ _ _ h1 t g
    obtain ⟨L', h3, h4⟩ := h2 _ m
    split at h3
    · rename_i hl
      cases h3
      refine (AOk.one ?_ g1).mono h4
      simp only [evE, e1, if_pos hl]
    · cases h3
  | bin op a b iha ihb =>
    refine ⟨fun m ρ L h t g => ?_, fun b ρ L h => by simp [aEs] at h⟩
    unfold aE at h
    obtain ⟨l, h1, h2⟩ := bal_some h
    obtain ⟨x, m1, t1, e1, g1⟩ := iha.1 _ _ _ h1 t g
    obtain ⟨L', h3, h4⟩ := h2 _ m1
    obtain ⟨l2, h5, h6⟩ := bal_some h3
    obtain ⟨y, m2, t2, e2, g2⟩ := ihb.1 _ _ _ h5 t1 g1
    obtain ⟨L2, h7, h8⟩ := h6 _ m2
    obtain ⟨d, h9, rfl⟩ := ol_some h7
    refine (AOk.one ?_ g2).mono fun x hx => h4 _ (h8 _ hx)
    simp only [evE, e1, e2, h9]
  | not a ih =>
    refine ⟨fun m ρ L h t g => ?_, fun b ρ L h => by simp [aEs] at h⟩
    unfold aE at h
    obtain ⟨l, h1, h2⟩ := bal_some h
    obtain ⟨x, m1, t1, e1, g1⟩ := ih.1 _ _ _ h1 t g
    obtain ⟨L', h3, h4⟩ := h2 _ m1
    obtain ⟨d, h9, rfl⟩ := ol_some h3
    obtain ⟨k, h10, rfl⟩ := Option.map_eq_some_iff.mp h9
    refine (AOk.one ?_ g1).mono h4
    simp only [evE, e1, h10]
  | and a b iha ihb =>
    refine ⟨fun m ρ L h t g => ?_, fun b ρ L h => by simp [aEs] at h⟩
    unfold aE at h
    obtain ⟨l, h1, h2⟩ := bal_some h
    obtain ⟨x, m1, t1, e1, g1⟩ := iha.1 _ _ _ h1 t g
    obtain ⟨L', h3, h4⟩ := h2 _ m1
    split at h3
    · rename_i ht
      refine AOk.mono ?_ h4
      simp only [evE, e1, ht]
      exact ihb.1 _ _ _ h3 t1 g1
    · rename_i ht
      cases h3
      refine (AOk.one ?_ g1).mono h4
      simp only [evE, e1, ht]
    · cases h3
  | or a b iha ihb =>
    refine ⟨fun m ρ L h t g => ?_, fun b ρ L h => by simp [aEs] at h⟩
    unfold aE at h
    obtain ⟨l, h1, h2⟩ := bal_some h
    obtain ⟨x, m1, t1, e1, g1⟩ := iha.1 _ _ _ h1 t g
    obtain ⟨L', h3, h4⟩ := h2 _ m1
    split at h3
    · rename_i ht
      cases h3
      refine (AOk.one ?_ g1).mono h4
      simp only [evE, e1, ht]
    · rename_i ht
      refine AOk.mono ?_ h4
      simp only [evE, e1, ht]
      exact ihb.1 _ _ _ h3 t1 g1
    · cases h3
  | cmp op a b iha ihb =>
    refine ⟨fun m ρ L h t g => ?_, fun b ρ L h => by simp [aEs] at h⟩
    unfold aE at h
    obtain ⟨l, h1, h2⟩ := bal_some h
    obtain ⟨x, m1, t1, e1, g1⟩ := iha.1 _ _ _ h1 t g
    obtain ⟨L', h3, h4⟩ := h2 _ m1
    obtain ⟨l2, h5, h6⟩ := bal_some h3
    obtain ⟨y, m2, t2, e2, g2⟩ := ihb.1 _ _ _ h5 t1 g1
    obtain ⟨L2, h7, h8⟩ := h6 _ m2
    obtain ⟨d, h9, rfl⟩ := ol_some h7
    obtain ⟨k, h10, rfl⟩ := Option.map_eq_some_iff.mp h9
    refine (AOk.one ?_ g2).mono fun x hx => h4 _ (h8 _ hx)
    simp only [evE, e1, e2, h10]
  | ite e a b ihe iha ihb =>
    refine ⟨fun m ρ L h t g => ?_, fun b ρ L h => by simp [aEs] at h⟩
    unfold aE at h
    obtain ⟨l, h1, h2⟩ := bal_some h
    obtain ⟨x, m1, t1, e1, g1⟩ := ihe.1 _ _ _ h1 t g
    obtain ⟨L', h3, h4⟩ := h2 _ m1
    split at h3
    · rename_i ht
      refine AOk.mono ?_ h4
      simp only [evE, e1, ht]
      exact iha.1 _ _ _ h3 t1 g1
    · rename_i ht
      refine AOk.mono ?_ h4
      simp only [evE, e1, ht]
      exact ihb.1 _ _ _ h3 t1 g1
    · cases h3
  | call f es ih =>
    refine ⟨fun b ρ L h t g => ?_, fun b ρ L h => by simp [aEs] at h⟩
    unfold aE at h
    obtain ⟨l, h1, h2⟩ := bal_some h
    obtain ⟨ds, m, t1, e1, g1⟩ := ih.2 _ _ _ h1 t g
    obtain ⟨L', h3, h4⟩ := h2 _ m
    refine AOk.mono ?_ h4
    simp only [evE, e1]
    exact ha _ _ _ h3 t1 g1
  | blt f es ih =>
    refine ⟨fun b ρ L h t g => ?_, fun b ρ L h => by simp [aEs] at h⟩
    unfold aE at h
    obtain ⟨l, h1, h2⟩ := bal_some h
    obtain ⟨ds, m, t1, e1, g1⟩ := ih.2 _ _ _ h1 t g
    obtain ⟨L', h3, h4⟩ := h2 _ m
    obtain ⟨d, h9, rfl⟩ := ol_some h3
    refine (AOk.one ?_ g1).mono h4
    simp only [evE, e1, h9]
  | ix a b iha ihb =>
    refine ⟨fun m ρ L h t g => ?_, fun b ρ L h => by simp [aEs] at h⟩
    unfold aE at h
    obtain ⟨l, h1, h2⟩ := bal_some h
    obtain ⟨x, m1, t1, e1, g1⟩ := iha.1 _ _ _ h1 t g
    obtain ⟨L', h3, h4⟩ := h2 _ m1
    obtain ⟨l2, h5, h6⟩ := bal_some h3
    obtain ⟨y, m2, t2, e2, g2⟩ := ihb.1 _ _ _ h5 t1 g1
    obtain ⟨L2, h7, h8⟩ := h6 _ m2
    obtain ⟨d, h9, rfl⟩ := ol_some h7
    refine (AOk.one ?_ g2).mono fun x hx => h4 _ (h8 _ hx)
    simp only [evE, e1, e2, h9]
  | nil =>
    refine ⟨fun b ρ L h t g => ?_, fun b ρ L h t g => ?_⟩
    · exact pE_ok hc (by simpa only [aE] using h) g
    · simp only [aEs] at h
      cases h
      exact AOk.one (by simp only [evEs]) g
  | cons e es ih1 ih2 =>
    refine ⟨fun b ρ L h t g => ?_, fun b ρ L h t g => ?_⟩
    · exact pE_ok hc (by simpa only [aE] using h) g
    · unfold aEs at h
      obtain ⟨l, h1, h2⟩ := bal_some h
      obtain ⟨x, m1, t1, e1, g1⟩ := ih1.1 _ _ _ h1 t g
      obtain ⟨L', h3, h4⟩ := h2 _ m1
      obtain ⟨l2, h5, h6⟩ := bal_some h3
      obtain ⟨y, m2, t2, e2, g2⟩ := ih2.2 _ _ _ h5 t1 g1
      obtain ⟨L2, h7, h8⟩ := h6 _ m2
      cases h7
      refine (AOk.one ?_ g2).mono fun x hx => h4 _ (h8 _ hx)
      simp only [evEs, e1, e2]
  | _ =>
    refine ⟨fun b ρ L h t g => ?_, fun b ρ L h => by simp [aEs] at h⟩
    exact pE_ok hc (by simpa only [aE] using h) g
end
end
end Ev

/-! Ev25: all paths of statements and defs. -/
namespace Ev
open PySem (Str CmpOp)
noncomputable section
section
variable (c : PC) (all : AC) (W : Nat)
/-- several, new lists our own -/
def aNs : E → En → Option (List (List Sd))
  | .nil, _ => some [[]]
  | .cons e es, ρ => bal ((aE c all e e.isNew ρ).map ddp) fun d => bal (aNs es ρ) fun ds => some [(match e.isNew with | true => mkSd d | false => Sd.val d) :: ds]
  | _, _ => none
def aFor (f : D → En → Option (List Fh)) : List D → En → Option (List Fh)
  | [], ρ => some [.nx ρ]
  | d :: ds, ρ => bal (f d ρ) fun fl => match fl with
    | .nx ρ => aFor f ds ρ
    | .ct ρ => aFor f ds ρ
    | .bk ρ => some [.nx ρ]
    | .rt d => some [.rt d]
def aS : S → En → Option (List Fh)
  | .nil, ρ => some [.nx ρ]
  | .seq a b, ρ => bal (aS a ρ) fun fl => match fl with
    | .nx ρ => aS b ρ
    | r => some [r]
  | .frz is a, ρ => aS a ((frzB is).f ρ)
  | .asg tg e, ρ => bal ((aE c all e e.isNew ρ).map ddp) fun d => ol (((asvB tg e.isNew).f d ρ).map .nx)
  | .par is es, ρ => bal (aNs c all es ρ) fun ss => ol (((setNB is).f ss ρ).map .nx)
  | .aug i neg e, ρ => match gete ρ i with
    | .val (.int x) => bal ((aE c all e true ρ).map ddp) fun y => match y with
      | .int y => some [.nx (pute ρ (.val (.int (if neg then x - y else x + y))) i)]
      | _ => none
    | _ => none
  | .app i e, ρ => match gete ρ i with
    | .own ds => bal ((aE c all e false ρ).map ddp) fun d => if ds.length < line then some [.nx (pute ρ (.own (ds ++ [d])) i)] else none
    | _ => none
  | .ins i k e, ρ => match gete ρ i with
    | .own ds => bal ((aE c all k true ρ).map ddp) fun k => match k with
      | .int k => bal ((aE c all e false ρ).map ddp) fun d => if ds.length < line ∧ 0 ≤ k ∧ k < 2 ^ 63 then some [.nx (pute ρ (.own (ds.take k.toNat ++ [d] ++ ds.drop k.toNat)) i)] else none
      | _ => none
    | _ => none
  | .ifS e a b, ρ => bal ((aE c all e true ρ).map ddp) fun x => match truth x with
    | some true => aS a ρ
    | some false => aS b ρ
    | none => none
  | .forS tg it b, ρ => bal ((aE c all it false ρ).map ddp) fun x => match seqOf x with
    | some ds => aFor (fun d ρ => match (asgB tg).f d ρ with
      | some ρ => aS b ρ
      | none => none) ds ρ
    | none => none
  | .ret e, ρ => (aE c all e false ρ).map fun l => (ddp l).map .rt
  | .brk, ρ => some [.bk ρ]
  | .cont, ρ => some [.ct ρ]
  | s, ρ => ol ((hS s).f c W ρ)
end
section
variable {c : PC} {all : AC} {call : Nat → List D → DS → R D} {W : Nat}
def FOk (r : R Fl) (L : List Fh) : Prop := ∃ a ∈ L, ∃ t, r = some (a.toFl, t) ∧ t.cells ≠ []
theorem FOk.mono {r : R Fl} {L M : List Fh} (h : FOk r L) (s : ∀ x ∈ L, x ∈ M) : FOk r M := by
  obtain ⟨a, ha, t, h1, h2⟩ := h
  exact ⟨a, s _ ha, t, h1, h2⟩
theorem FOk.one {r : R Fl} {a : Fh} {t : DS} (h : r = some (a.toFl, t)) (g : t.cells ≠ []) : FOk r [a] := ⟨a, List.mem_singleton.mpr rfl, t, h, g⟩
theorem dd_bal {β : Type} {o : Option (List D)} {k : D → Option (List β)} {M : List β} (h : bal (o.map ddp) k = some M) : ∃ l, o = some l ∧ ∀ a ∈ l, ∃ L, k a = some L ∧ ∀ x ∈ L, x ∈ M := by
  obtain ⟨l, h1, h2⟩ := bal_some h
  obtain ⟨l', h3, rfl⟩ := Option.map_eq_some_iff.mp h1
  exact ⟨l', h3, fun a ha => h2 a (ddp_ok ha)⟩
theorem aNs_ok (hc : PCok c call) (ha : AllOk all call) : ∀ (es : E) (ρ : En) (L : List (List Sd)), aNs c all es ρ = some L → ∀ t : DS, t.cells ≠ [] → ∃ ss ∈ L, ∃ ls t', sls ss = ls.map some ∧ evNs call es ρ.toL t = some (ls, t') ∧ t'.cells ≠ [] := by
  intro es
  induction es with
  | nil =>
    intro ρ L h t g
    unfold aNs at h
    cases h
    exact ⟨[], List.mem_singleton.mpr rfl, [], t, rfl, by simp only [evNs], g⟩
  | cons e es _ ih =>
    intro ρ L h t g
    unfold aNs at h
    obtain ⟨l, h1, h2⟩ := dd_bal h
    obtain ⟨d, m, t1, e1, g1⟩ := (aE_ok hc ha e).1 _ _ _ h1 t g
    obtain ⟨L', h3, h4⟩ := h2 _ m
    obtain ⟨l2, h5, h6⟩ := bal_some h3
    obtain ⟨ss, m2, ls, t2, q1, q2, g2⟩ := ih _ _ h5 t1 g1
    obtain ⟨L2, h7, h8⟩ := h6 _ m2
    cases h7
    refine ⟨_, h4 _ (h8 _ (List.mem_singleton.mpr rfl)), mkSl e.isNew d :: ls, t2, ?_, ?_, g2⟩
    · cases hn : e.isNew with
      | true =>
        show (mkSd d).sl :: sls ss = some (mkSl true d) :: ls.map some
        rw [mkSd_eq, q1]
      | false =>
        show some (Sl.val d) :: sls ss = some (mkSl false d) :: ls.map some
        rw [q1]
        rfl
    · simp only [evNs, e1, q2]
  | _ => intro ρ L h; simp [aNs] at h
theorem aFor_ok {f : D → En → Option (List Fh)} {g : D → EnvD → DS → R Fl} (hf : ∀ d ρ L, f d ρ = some L → ∀ t : DS, t.cells ≠ [] → FOk (g d ρ.toL t) L) : ∀ (ds : List D) (ρ : En) (L : List Fh), aFor f ds ρ = some L → ∀ t : DS, t.cells ≠ [] → FOk (forL g ds ρ.toL t) L
  | [], ρ, L, h, t, q => by
    unfold aFor at h
    cases h
    exact .one rfl q
  | d :: ds, ρ, L, h, t, q => by
    unfold aFor at h
    obtain ⟨l, h1, h2⟩ := bal_some h
    obtain ⟨fl, m, t1, e1, g1⟩ := hf _ _ _ h1 t q
    obtain ⟨L', h3, h4⟩ := h2 _ m
    unfold forL
    rw [e1]
    cases fl with
    | nx ρ' => exact (aFor_ok hf ds ρ' _ h3 t1 g1).mono h4
    | ct ρ' => exact (aFor_ok hf ds ρ' _ h3 t1 g1).mono h4
    | bk ρ' => cases h3; exact (FOk.one rfl g1).mono h4
    | rt d' => cases h3; exact (FOk.one rfl g1).mono h4
theorem aS_ok (hc : PCok c call) (ha : AllOk all call) : ∀ (s : S) (ρ : En) (L : List Fh), aS c all W s ρ = some L → ∀ t : DS, t.cells ≠ [] → FOk (exec call W s ρ.toL t) L := by
  intro s
  induction s with
  | nil =>
    intro ρ L h t g
    unfold aS at h
    cases h
    exact .one rfl g
  | brk =>
    intro ρ L h t g
    unfold aS at h
    cases h
    exact .one rfl g
  | cont =>
    intro ρ L h t g
    unfold aS at h
    cases h
    exact .one rfl g
  | seq a b iha ihb =>
    intro ρ L h t g
    unfold aS at h
    obtain ⟨l, h1, h2⟩ := bal_some h
    obtain ⟨fl, m, t1, e1, g1⟩ := iha _ _ h1 t g
    obtain ⟨L', h3, h4⟩ := h2 _ m
    unfold exec
    rw [e1]
    cases fl with
    | nx ρ' => exact (ihb _ _ h3 t1 g1).mono h4
    | ct ρ' => cases h3; exact (FOk.one rfl g1).mono h4
    | bk ρ' => cases h3; exact (FOk.one rfl g1).mono h4
    | rt d' => cases h3; exact (FOk.one rfl g1).mono h4
  | frz is a ih =>
    intro ρ L h t g
    unfold aS at h
    unfold exec
    rw [← frzB_eq]
    exact ih _ _ h t g
  | asg tg e =>
    intro ρ L h t g
    unfold aS at h
    obtain ⟨l, h1, h2⟩ := dd_bal h
    obtain ⟨d, m, t1, e1, g1⟩ := (aE_ok hc ha e).1 _ _ _ h1 t g
    obtain ⟨L', h3, h4⟩ := h2 _ m
    obtain ⟨d', h9, rfl⟩ := ol_some h3
    obtain ⟨k, h10, rfl⟩ := Option.map_eq_some_iff.mp h9
    refine (FOk.one ?_ g1).mono h4
    unfold exec
    simp only [e1, asvB_ok h10]
    rfl
  | par is es =>
    intro ρ L h t g
    unfold aS at h
    obtain ⟨l, h1, h2⟩ := bal_some h
    obtain ⟨ss, m, ls, t1, q1, q2, g1⟩ := aNs_ok hc ha es _ _ h1 t g
    obtain ⟨L', h3, h4⟩ := h2 _ m
    obtain ⟨d', h9, rfl⟩ := ol_some h3
    obtain ⟨k, h10, rfl⟩ := Option.map_eq_some_iff.mp h9
    refine (FOk.one ?_ g1).mono h4
    unfold exec
    simp only [q2, setNB_ok _ _ _ _ _ q1 h10]
    rfl
  | aug i neg e =>
    intro ρ L h t g
    unfold aS at h
    split at h
    · rename_i x hx
      obtain ⟨l, h1, h2⟩ := dd_bal h
      obtain ⟨d, m, t1, e1, g1⟩ := (aE_ok hc ha e).1 _ _ _ h1 t g
      obtain ⟨L', h3, h4⟩ := h2 _ m
      split at h3
      · cases h3
        refine (FOk.one ?_ g1).mono h4
        unfold exec
        simp only [gete_val hx, e1]
        show _ = some (Fl.nx (pute ρ _ i).toL, t1)
        rw [pute_eq]
        rfl
      · cases h3
    · cases h
  | app i e =>
    intro ρ L h t g
    unfold aS at h
    split at h
    · rename_i ds hx
      have ho : ownOf ρ.toL i = some ds := ownS_ok (by rw [hx]; rfl)
      obtain ⟨l, h1, h2⟩ := dd_bal h
      obtain ⟨d, m, t1, e1, g1⟩ := (aE_ok hc ha e).1 _ _ _ h1 t g
      obtain ⟨L', h3, h4⟩ := h2 _ m
      split at h3
      · rename_i hl
        cases h3
        refine (FOk.one ?_ g1).mono h4
        unfold exec
        simp only [ho, e1, if_pos hl]
        show _ = some (Fl.nx (pute ρ _ i).toL, t1)
        rw [pute_eq]
        rfl
      · cases h3
    · cases h
  | ins i k e =>
    intro ρ L h t g
    unfold aS at h
    split at h
    · rename_i ds hx
      have ho : ownOf ρ.toL i = some ds := ownS_ok (by rw [hx]; rfl)
      obtain ⟨l, h1, h2⟩ := dd_bal h
      obtain ⟨d, m, t1, e1, g1⟩ := (aE_ok hc ha k).1 _ _ _ h1 t g
      obtain ⟨L', h3, h4⟩ := h2 _ m
      split at h3
      · obtain ⟨l2, h5, h6⟩ := dd_bal h3
        obtain ⟨d2, m2, t2, e2, g2⟩ := (aE_ok hc ha e).1 _ _ _ h5 t1 g1
        obtain ⟨L2, h7, h8⟩ := h6 _ m2
        split at h7
        · rename_i hl
          cases h7
          refine (FOk.one ?_ g2).mono fun x hx => h4 _ (h8 _ hx)
          unfold exec
          simp only [ho, e1, e2, if_pos hl]
          show _ = some (Fl.nx (pute ρ _ i).toL, t2)
          rw [pute_eq]
          rfl
        · cases h7
      · cases h3
    · cases h
  | ifS e a b iha ihb =>
    intro ρ L h t g
    unfold aS at h
    obtain ⟨l, h1, h2⟩ := dd_bal h
    obtain ⟨x, m1, t1, e1, g1⟩ := (aE_ok hc ha e).1 _ _ _ h1 t g
    obtain ⟨L', h3, h4⟩ := h2 _ m1
    split at h3
    · rename_i ht
      refine FOk.mono ?_ h4
      unfold exec
      simp only [tst, e1, ht]
      exact iha _ _ h3 t1 g1
    · rename_i ht
      refine FOk.mono ?_ h4
      unfold exec
      simp only [tst, e1, ht]
      exact ihb _ _ h3 t1 g1
    · cases h3
  | forS tg it b ih =>
    intro ρ L h t g
    unfold aS at h
    obtain ⟨l, h1, h2⟩ := dd_bal h
    obtain ⟨x, m1, t1, e1, g1⟩ := (aE_ok hc ha it).1 _ _ _ h1 t g
    obtain ⟨L', h3, h4⟩ := h2 _ m1
    split at h3
    · rename_i ds hs
      refine FOk.mono ?_ h4
      unfold exec
      simp only [e1, hs]
      refine aFor_ok (fun d ρ L h t g => ?_) ds ρ _ h3 t1 g1
      unfold forF
      split at h
      · rename_i ρ' ha
        rw [asgB_ok ha]
        exact ih _ _ h t g
      · cases h
    · cases h3
  | ret e =>
    intro ρ L h t g
    unfold aS at h
    obtain ⟨l, h1, rfl⟩ := Option.map_eq_some_iff.mp h
    obtain ⟨x, m1, t1, e1, g1⟩ := (aE_ok hc ha e).1 _ _ _ h1 t g
    refine ⟨.rt x, List.mem_map.mpr ⟨x, ddp_ok m1, rfl⟩, t1, ?_, g1⟩
    unfold exec
    simp only [e1]
    rfl
  | _ =>
    intro ρ L h t g
    unfold aS at h
    obtain ⟨fl, h1, rfl⟩ := ol_some h
    exact .one (hS_ok hc _ _ _ h1 t) g
/-- the values a body may give -/
def aEnd (L : List Fh) : Option (List D) := match L with
  | [] => some []
  | .rt v :: L => (aEnd L).map (v :: ·)
  | .nx _ :: L => (aEnd L).map (.non :: ·)
  | _ :: _ => none
theorem aEnd_ok {call : R Fl} : ∀ {L : List Fh} {M : List D}, aEnd L = some M → FOk call L → AOk (endF call) M := by
  have main : ∀ {L : List Fh} {M : List D}, aEnd L = some M → ∀ a ∈ L, ∀ t, ∃ d ∈ M, endF (some (a.toFl, t)) = some (d, t) := by
    intro L
    induction L with
    | nil => intro M h a ha; cases ha
    | cons b L ih =>
      intro M h a ha t
      cases b with
      | rt v =>
        obtain ⟨M', h1, rfl⟩ := Option.map_eq_some_iff.mp (show (aEnd L).map (v :: ·) = some M from h)
        rcases List.mem_cons.mp ha with rfl | ha
        · exact ⟨v, List.mem_cons_self, rfl⟩
        · obtain ⟨d, hd, e⟩ := ih h1 a ha t
          exact ⟨d, List.mem_cons_of_mem _ hd, e⟩
      | nx ρ =>
        obtain ⟨M', h1, rfl⟩ := Option.map_eq_some_iff.mp (show (aEnd L).map (D.non :: ·) = some M from h)
        rcases List.mem_cons.mp ha with rfl | ha
        · exact ⟨.non, List.mem_cons_self, rfl⟩
        · obtain ⟨d, hd, e⟩ := ih h1 a ha t
          exact ⟨d, List.mem_cons_of_mem _ hd, e⟩
      | bk ρ => cases h
      | ct ρ => cases h
  rintro L M h ⟨a, ha, t, h1, g⟩
  obtain ⟨d, hd, e⟩ := main h a ha t
  exact ⟨d, hd, t, by rw [h1]; exact e, g⟩
/-- all that a draw may give -/
def rng0 (n : Nat) : List D := match n with
  | 0 => []
  | n + 1 => rng0 n ++ [.int (.ofNat n)]
def takeAll (args : List D) : Option (List D) := match args with
  | [.st, .int (.ofNat m)] => match Nat.ble m 1 with
    | true => some [.int (.ofNat 0)]
    | false => match Nat.ble m 1000000 with
      | true => some (rng0 m)
      | false => none
  | _ => none
theorem rng0_mem : ∀ {n k : Nat}, k < n → D.int (.ofNat k) ∈ rng0 n
  | n + 1, k, h => by
    unfold rng0
    rcases Nat.lt_succ_iff_lt_or_eq.mp h with h | rfl
    · exact List.mem_append_left _ (rng0_mem h)
    · exact List.mem_append_right _ List.mem_cons_self
theorem mod_mem {i : Int} {m : Nat} (h : 0 < m) : D.int (i % (m : Int)) ∈ rng0 m := by
  have h1 := Int.emod_nonneg i (b := (m : Int)) (by omega)
  have h2 := Int.emod_lt_of_pos i (b := (m : Int)) (by omega)
  obtain ⟨k, hk⟩ := Int.eq_ofNat_of_zero_le h1
  rw [hk]
  exact rng0_mem (by omega)
theorem takeF_all {m : Nat} {t : DS} (hm : 2 ≤ m) (hm2 : m ≤ 1000000) (g : t.cells ≠ []) : AOk (takeF m t) (rng0 m) := by
  unfold takeF
  rw [if_neg (by omega), if_neg (by omega)]
  have hl : 0 < t.cells.length := List.length_pos_iff.mpr g
  have h1 := Int.emod_nonneg t.n (b := (t.cells.length : Int)) (by omega)
  have h2 := Int.emod_lt_of_pos t.n (b := (t.cells.length : Int)) (by omega)
  have ha : ∃ c, L2.atI t.cells (t.n % (t.cells.length : Int)) = some c := by
    unfold L2.atI L2.ixN
    rw [if_pos h1, if_pos (by omega)]
    exact ⟨_, List.getElem?_eq_getElem (by omega)⟩
  obtain ⟨c, hc⟩ := ha
  rw [hc]
  by_cases h : 1000000000000000000 ≤ c
  · simp only [if_pos h]
    refine ⟨_, mod_mem (by omega), _, rfl, fun q => g ?_⟩
    have := congrArg List.length q
    rw [List.length_set] at this
    exact List.length_eq_zero_iff.mp this
  · simp only [if_neg h]
    exact ⟨_, mod_mem (by omega), _, rfl, g⟩
theorem takeAll_ok {args : List D} {L : List D} (h : takeAll args = some L) {t : DS} (g : t.cells ≠ []) : AOk (takeA args t) L := by
  unfold takeAll at h
  split at h
  · rename_i m
    split at h
    · rename_i hm
      cases h
      have : m ≤ 1 := Nat.le_of_ble_eq_true hm
      refine AOk.one ?_ g
      show takeF (m : Int) t = _
      unfold takeF
      rw [if_pos (by omega)]
      rfl
    · rename_i hm
      split at h
      · rename_i hm2
        cases h
        have h2 : ¬ m ≤ 1 := fun q => by rw [Nat.ble_eq_true_of_le q] at hm; cases hm
        exact takeF_all (by omega) (Nat.le_of_ble_eq_true hm2) g
      · cases h
  · cases h
/-- all paths of a call -/
def aC (tk : Nat) (tbl : List Df) (rk : List Nat) : Nat → AC
  | 0, _, _ => none
  | n + 1, f, args => match f == tk with
    | true => takeAll args
    | false => match fC tk tbl rk (n + 1) f args with
      | some d => some [d]
      | none => match tbl[f]? with
        | none => none
        | some d => match Nat.beq d.N.length 13 with
          | false => none
          | true => match (frmB d.ps).f args with
            | none => none
            | some ρ => match aS (fC tk tbl rk n) (aC tk tbl rk n) d.W d.body ρ with
              | none => none
              | some L => (aEnd L).map ddp
theorem aC_ok (tk : Nat) (tbl : List Df) (rk : List Nat) : ∀ n, AllOk (aC tk tbl rk n) (run tk tbl n)
  | 0 => fun f args L h => by cases h
  | n + 1 => fun f args L h t g => by
    unfold aC at h
    split at h
    · rename_i hf
      unfold run
      rw [hf]
      exact takeAll_ok h g
    · rename_i hf
      split at h
      · rename_i d hd
        cases h
        exact AOk.one (fC_ok tk tbl rk (n + 1) f args d hd t) g
      · split at h
        · cases h
        · rename_i d hd
          split at h
          · cases h
          · rename_i hN
            split at h
            · cases h
            · rename_i ρ hr
              split at h
              · cases h
              · rename_i L' hL
                obtain ⟨M, h1, rfl⟩ := Option.map_eq_some_iff.mp h
                obtain ⟨e1, hl⟩ := frmB_ok hr
                have hN2 : d.N.length = 13 := Nat.eq_of_beq_eq_true hN
                have hl3 : (args.length == d.ps) = true := by rw [hl]; exact beq_self_eq_true _
                unfold run
                rw [hf, hd]
                simp only [hl3, hN2]
                rw [e1]
                exact (aEnd_ok h1 (aS_ok (fC_ok tk tbl rk n) (aC_ok tk tbl rk n) _ _ _ hL t g)).mono fun x hx => ddp_ok hx
end
end
end Ev

/-! Ev26: a program of defs, some of them shown by hand. -/
namespace Ev
open PySem PySem.Spec PyProof.Rows L2
section
variable {P : Program} {w : World} {K : PySem.W.Frag} {mg : Str → Option Value} {base : Heap} {gi : List (Str × Int)} {tk : Nat} {ds : List Df}
/-- all defs keep their promise at a depth -/
def Lvl (P : Program) (w : World) (K : PySem.W.Frag) (mg : Str → Option Value) (base : Heap) (tk : Nat) (ds : List Df) (n : Nat) : Prop :=
  ∀ (i : Nat) (d : Df), ds[i]? = some d → ∃ a fd ps, mg d.key = some (.ref a) ∧ PySem.W.keepIn K (.ref a) = true ∧ Binds K fd ps [] ∧ FnOk P w K mg base CX0 n a fd ps (spF (run tk ds n) i)
/-- a def that keeps its promise if those called do -/
def Stp (P : Program) (w : World) (K : PySem.W.Frag) (mg : Str → Option Value) (base : Heap) (tk : Nat) (ds : List Df) (i : Nat) (d : Df) : Prop :=
  ∃ a fd ps, mg d.key = some (.ref a) ∧ PySem.W.keepIn K (.ref a) = true ∧ Binds K fd ps [] ∧ ∀ n, (∀ m, m ≤ n → Lvl P w K mg base tk ds m) → FnOk P w K mg base CX0 (n + 1) a fd ps (spF (run tk ds (n + 1)) i)
theorem real_stp (hgi : ∀ (j : Nat) (x : Str) (i : Int), gi[j]? = some (x, i) → ∃ t, mg x = some (.int i t)) (hbn : ∀ f : B, mg f.nm = none) (hrg : mg "range" = none) {i : Nat} {d : Df} (h : ds[i]? = some d)
    (r0 : ∃ f fd ps, Real K mg gi (ds.map Df.key) tk i d f fd ps) : Stp P w K mg base tk ds i d := by
  obtain ⟨f, fd, ps, r⟩ := r0
  have rr := r
  obtain ⟨x, qual, params, body, scope, FD, S, ht, hb⟩ := r.ex
  refine ⟨f, fd, ps, r.mg, FD.kp, r.bind, fun n ih => ?_⟩
  have hfn : ∀ (f : Nat) (x : Str), (ds.map Df.key)[f]? = some x → ∃ a fd ps, mg x = some (.ref a) ∧ PySem.W.keepIn K (.ref a) = true ∧ Binds K fd ps [] ∧ FnOk P w K mg base CX0 n a fd ps (spF (run tk ds n) f) := by
    intro f x hx
    rw [List.getElem?_map] at hx
    obtain ⟨d, hd', rfl⟩ := Option.map_eq_some_iff.mp hx
    exact ih n (Nat.le_refl n) f d hd'
  have lenA : ∀ {args : List D} {t : DS} {d' : D} {t' : DS}, run tk ds (n + 1) i args t = some (d', t') → args.length = d.ps := by
    intro args t d' t' e
    unfold run at e
    split at e
    · rename_i hi
      have hi : i = tk := by simpa using hi
      have := (ht hi).2.2
      unfold takeA at e
      split at e
      · rw [this]; rfl
      · cases e
    · rw [h] at e
      simp only at e
      split at e
      · rename_i hl; simpa using hl
      · cases e
  refine FD.ok (CX := CX0) S (fun vs H Q E hs => ?_) (fun cdv A outer s H vs Q E hr hs => ?_)
  · obtain ⟨a0, c0, F, G, args, t, d', t', _, _, _, _, rp, e, _⟩ := hs
    rw [rp.len, lenA e, r.len]
  · obtain ⟨a0, c0, F, G, args, t, d', t', h1, h2, h3, h4, rp, e, q⟩ := hs
    by_cases hi : i = tk
    · obtain ⟨hB, hN, hp⟩ := ht hi
      have O := cx_ok (P := P) (w := w) (K := K) (base := base) (cdv := cdv) (f := f) (outer := outer) (H := H) (E := E) (gi := []) (fns := []) (call := run tk ds n) S.nd hr (by intro j x i h; cases h) hbn hrg (by intro j x h; cases h)
      refine ⟨tTake K, PSs.nox (take_walk O (fun _ => rfl) hB), ?_⟩
      unfold run at e
      rw [hi, beq_self_eq_true] at e
      replace e : takeA args t = some (d', t') := e
      unfold takeA at e
      split at e
      · rename_i m
        obtain ⟨v1, r1, rfl, g1, g2⟩ := rp.inv_cons
        obtain ⟨v2, r2, rfl, g3, g4⟩ := g2.inv_cons
        obtain rfl : r2 = [] := g4
        obtain rfl : v1 = .ref a0 := g1
        obtain rfl : v2 = .int m := g3
        refine take_run hN h4 e fun i H' ed k st => ?_
        subst ed
        have kf : ∀ {F : Hp}, Sub F H → F a0 = none → F c0 = none → Sub F H' := fun s f0 fc b o hb => k b o (s b o hb) (by rintro rfl; rw [f0] at hb; cases hb) (by rintro rfl; rw [fc] at hb; cases hb)
        exact q (.int i) H' G Sub.refl (kf h1 h4.f0 h4.fc) (kf h2 h4.g0 h4.gc) h3 st rfl
      · cases e
    · have O := cx_ok (P := P) (w := w) (K := K) (base := base) (cdv := cdv) (f := f) (outer := outer) (H := H) (E := E) (gi := gi) (call := run tk ds n) S.nd hr hgi hbn hrg hfn
      refine ⟨tS (run tk ds n) d.W d.body, PSs.nox ((sndS O (fun _ => rfl) S.kind d.body).all body (hb hi)), ?_⟩
      unfold run at e
      rw [beq_false_of_ne hi, h] at e
      simp only at e
      split at e
      · obtain ⟨fl, e2, hq⟩ := endF_ok e q
        exact ⟨a0, c0, F, G, _, t, fl, t', start_re h1 h2 h3 h4 rp, e2, hq⟩
      · cases e
theorem lvl_all (h : ∀ (i : Nat) (d : Df), ds[i]? = some d → Stp P w K mg base tk ds i d) : ∀ n, Lvl P w K mg base tk ds n := by
  intro n
  induction n using Nat.strongRecOn with
  | ind n ih =>
  cases n with
  | zero =>
    intro i d hd
    obtain ⟨f, fd, ps, h1, h2, h3, _⟩ := h i d hd
    have no : ∀ vs H Q E, ¬ spF (run tk ds 0) i vs H Q E := by
      rintro vs H Q E ⟨a0, c0, F, G, args, t, d, t', _, _, _, _, _, e, _⟩
      cases e
    exact ⟨f, fd, ps, h1, h2, h3, fun vs H Q E h => (no _ _ _ _ h).elim, fun A outer s H args us vs Q E _ _ _ _ h => (no _ _ _ _ h).elim⟩
  | succ n =>
    intro i d hd
    obtain ⟨f, fd, ps, h1, h2, h3, h4⟩ := h i d hd
    exact ⟨f, fd, ps, h1, h2, h3, h4 n fun m hm => ih m (Nat.lt_succ_of_le hm)⟩
theorem law_ok2 {x qual : Str} {params : Arguments} {body : List Stmt} {scope : Scope} {f : Addr} {fd : FuncData} {N ps : List Str} {m n W : Nat} {s : S} (F : FunD K x qual params body scope [] [] f fd) (S : FnScope N ps scope) (hp : ps.length = 1) (hN : N.length = m + 2)
    (hb : lawB gi (ds.map Df.key) N scope s body = true)
    (hgi : ∀ (j : Nat) (x : Str) (i : Int), gi[j]? = some (x, i) → ∃ t, mg x = some (.int i t)) (hbn : ∀ f : B, mg f.nm = none) (hrg : mg "range" = none)
    (hst : ∃ a fd ps, mg "_law_state" = some (.ref a) ∧ PySem.W.keepIn K (.ref a) = true ∧ Binds K fd ps [] ∧ FnOk P w K mg base CX0 n a fd ps (spState K))
    (hrun : Lvl P w K mg base tk ds n)
    (hlaw : ∀ t : DS, t.n = 0 → t.cells ≠ [] → ∃ t', exec (run tk ds n) W s (lawE m) t = some (.rt (.bl true), t')) : FnOk P w K mg base CX0 (n + 1) f fd ps (spLaw K) := by
  have hfn : ∀ (f : Nat) (x : Str), (ds.map Df.key)[f]? = some x → ∃ a fd ps, mg x = some (.ref a) ∧ PySem.W.keepIn K (.ref a) = true ∧ Binds K fd ps [] ∧ FnOk P w K mg base CX0 n a fd ps (spF (run tk ds n) f) := by
    intro f x hx
    rw [List.getElem?_map] at hx
    obtain ⟨d, hd', rfl⟩ := Option.map_eq_some_iff.mp hx
    exact hrun f d hd'
  refine F.ok (CX := CX0) S (fun vs H Q E hs => ?_) (fun cdv A outer s' H vs Q E hr hs => ?_)
  · obtain ⟨a, ns, rfl, _⟩ := hs
    rw [hp]; rfl
  · obtain ⟨a, ns, rfl, hS, hl, q⟩ := hs
    have O := cx_ok (P := P) (w := w) (K := K) (base := base) (cdv := cdv) (f := f) (outer := outer) (H := H) (E := E) (gi := gi) (call := run tk ds n) S.nd hr hgi hbn hrg hfn
    have O0 := cx_ok (P := P) (w := w) (K := K) (base := base) (cdv := cdv) (f := f) (outer := outer) (H := H) (E := E) (gi := []) (fns := []) (call := run tk ds n) S.nd hr (by intro j x i h; cases h) hbn hrg (by intro j x h; cases h)
    obtain ⟨a1, fd1, ps1, hm1, hk1, hb1, hF1⟩ := hst
    unfold lawB at hb
    split at hb
    · rename_i x1 p1 x2 p2 x0 p3 p4 rest
      simp only [Bool.and_eq_true, decide_eq_true_eq] at hb
      obtain ⟨rfl, g1, g2, g3, g4⟩ := hb
      simp only [chkT, Bool.and_eq_true, decide_eq_true_eq] at g2
      have hx := sto_ok (X := (cxOf CX0 P w K mg base N qual scope f cdv A outer s' H E).nox) (fun _ => rfl) g2.2
      obtain ⟨e1, e2⟩ := glo_ok g1
      have c0 := chk_ok _ _ _ _ _ _ _ g3
      have first := ps_asg (pos := p4) (pe_call (p := p2) (pos := p3) (dvs := []) (E := E0) hF1 O.hr e1 hm1 hk1 hb1 .nil pass0 (pa_cons ((rd_ok O0 _).1 _ _ c0) pa_nil (star_ok (chk_plain c0))) e2 (star_ok (chk_plain c0)) (by rw [star_nil]; rfl))
        (pg_name (pos := p1) O.nd g2.1 (hx.imp id (·.1)) (hx.symm.imp (·.2) id)) rfl rfl rfl
      refine ⟨_, PSs.nox (pss_cons first ((sndS (W := W) O (fun _ => rfl) S.kind s).all rest g4)), ?_⟩
      have hs : L2.start N [.ref a] = some (.ref a) :: List.replicate (m + 1) none := by
        unfold L2.start
        rw [hN]
        rfl
      rw [hs]
      refine ⟨_, rfl, a, ns, rfl, hS, hl, fun a0 c0 t H' hsub hn hc st => ?_⟩
      obtain ⟨t', he⟩ := hlaw t hn hc
      refine ⟨a0, c0, fun _ => none, fun _ => none, lawE m, t, _, t', ⟨fun b o h => (by cases h), fun b o h => (by cases h), fun b o h => (by cases h), st, fun i d e => ?_, fun i es e => ?_, fun i j ds es b e1 => ?_, ?_⟩, he, fun v H2 G2 s2 s3 s4 fg st2 r => ?_⟩
      · unfold lawE at e
        match i with
        | 0 => cases e
        | 1 => cases e; exact ⟨.ref a0, rfl, rfl⟩
        | i + 2 =>
          simp only [List.getElem?_cons_succ, List.getElem?_replicate] at e
          split at e <;> cases e
      · unfold lawE at e
        match i with
        | 0 => cases e
        | 1 => cases e
        | i + 2 =>
          simp only [List.getElem?_cons_succ, List.getElem?_replicate] at e
          split at e <;> cases e
      · unfold lawE at e1
        match i with
        | 0 => cases e1
        | 1 => cases e1
        | i + 2 =>
          simp only [List.getElem?_cons_succ, List.getElem?_replicate] at e1
          split at e1 <;> cases e1
      · simp [lawE]
      · obtain rfl : v = .bl true := r
        exact q H2
    · cases hb
end
def defsB2 (gi : List (Str × Int)) (fns : List Str) (fa : List He.Fa) (tk : Nat) (gv : List Nat) : Nat → List Df → List He.DefD → Bool
  | _, [], _ => true
  | i, d :: ds, e :: es => (gv.contains i || defB gi fns fa tk i d e) && defsB2 gi fns fa tk gv (i + 1) ds es
  | _, _, _ => false
section
variable {K : PySem.W.Frag} {h : Heap} {mg : Str → Option Value} {fa : List He.Fa} {fn : List He.DefD} {gi : List (Str × Int)} {tk : Nat} {gv : List Nat}
theorem defsB2_get {fns : List Str} : ∀ {ds : List Df} {es : List He.DefD} {i : Nat}, defsB2 gi fns fa tk gv i ds es = true → ∀ (j : Nat) (d : Df), ds[j]? = some d → i + j ∈ gv ∨ ∃ e, es[j]? = some e ∧ defB gi fns fa tk (i + j) d e = true
  | [], _, _, _, j, d, hd => by cases hd
  | d :: ds, [], _, h, _, _, _ => by cases h
  | d :: ds, e :: es, i, h, j, d', hd => by
    unfold defsB2 at h
    rw [Bool.and_eq_true, Bool.or_eq_true] at h
    cases j with
    | zero =>
      cases hd
      rcases h.1 with h1 | h1
      · exact .inl (List.contains_iff_mem.mp h1)
      · exact .inr ⟨e, rfl, h1⟩
    | succ j =>
      have e0 : i + 1 + j = i + (j + 1) := by omega
      rcases defsB2_get h.2 j d' hd with h1 | ⟨e', h1, h2⟩
      · exact .inl (by rw [← e0]; exact h1)
      · exact .inr ⟨e', h1, by rw [← e0]; exact h2⟩
/-- the whole program's check -/
def progB2 (fa : List He.Fa) (fn : List He.DefD) (gi : List (Str × Int)) (tk : Nat) (gv : List Nat) (ds : List Df) (stN lawN : List Str) (lawS : S) : Bool :=
  defsB2 gi (ds.map Df.key) fa tk gv 0 ds fn && (match fn[ds.length]?, fn[ds.length + 1]? with
    | some e, some l => decide (e.at_ = (("_law_state" : Str), none)) && (e.dfl.isEmpty && (e.kwd.isEmpty && ((fa.any fun | .glo x => decide (x = ("_law_state" : Str)) | _ => false) && (parB e.params (stN.take 1) && (decide (stN.length = 3) && (scopeB stN (stN.take 1) e.scope && (stateB stN e.scope e.body &&
      (decide (l.at_ = (("law" : Str), none)) && (l.dfl.isEmpty && (l.kwd.isEmpty && ((fa.any fun | .glo x => decide (x = ("law" : Str)) | _ => false) && (parB l.params (lawN.take 1) && (decide (2 ≤ lawN.length) && (scopeB lawN (lawN.take 1) l.scope && lawB gi (ds.map Df.key) lawN l.scope lawS l.body))))))))))))))
    | _, _ => false) && ((gi.all fun p => fa.any fun | .int x i => decide (x = p.1 ∧ i = p.2) | _ => false) && ([B.len, .sum, .max, .min, .abs, .int, .tuple, .list, .all, .any].all fun b => fa.any fun | .free x => decide (x = b.nm) | _ => false) && (fa.any fun | .free x => decide (x = ("range" : Str)) | _ => false))
theorem prog_ok2 {P : Program} {w : World} {ds : List Df} {stN lawN : List Str} {lawS : S} {f : Addr} {n W : Nat} (hB : progB2 fa fn gi tk gv ds stN lawN lawS = true) (X : K.In h) (G : h.Ns mainGlobals mg) (hf : mg ("law" : Str) = some (.ref f)) (c : He.SaysD fa fn K) (hn : 0 < n)
    (hgv : ∀ base : Heap, K.In base → base.Ns mainGlobals mg → ∀ (i : Nat) (d : Df), i ∈ gv → ds[i]? = some d → Stp P w K mg base tk ds i d)
    (hlaw : ∀ t : DS, t.n = 0 → t.cells ≠ [] → ∃ t', exec (run tk ds n) W lawS (lawE (lawN.length - 2)) t = some (.rt (.bl true), t')) {x : Str} (hx : lawN.take 1 = [x]) :
    ∃ fd : FuncData, (∀ (s : Shared) (v : Value), BindsTo s fd ⟨[v], []⟩ [(x, v)]) ∧ ∀ base : Heap, K.In base → base.Ns mainGlobals mg → FnOk P w K mg base CX0 (n + 1) f fd [x] (spLaw K) := by
  unfold progB2 at hB
  simp only [Bool.and_eq_true] at hB
  obtain ⟨⟨hds, hsl⟩, ⟨hg, hb⟩, hr⟩ := hB
  have hgi : ∀ (j : Nat) (x : Str) (i : Int), gi[j]? = some (x, i) → ∃ t, mg x = some (.int i t) := by
    intro j x i hj
    have := List.all_eq_true.mp hg _ (List.mem_of_getElem? hj)
    obtain ⟨g, hg2, e⟩ := List.any_eq_true.mp this
    split at e
    · rw [decide_eq_true_eq] at e
      obtain ⟨rfl, rfl⟩ := e
      exact He.int_ok X G (fact_of c hg2)
    · cases e
  have free_any : ∀ {x : Str}, (fa.any fun | .free y => decide (y = x) | _ => false) = true → mg x = none := by
    intro x h
    obtain ⟨g, hg2, e⟩ := List.any_eq_true.mp h
    split at e
    · rw [decide_eq_true_eq] at e; subst e; exact He.free_ok X G (fact_of c hg2)
    · cases e
  have hbn : ∀ b : B, mg b.nm = none := fun b => free_any (List.all_eq_true.mp hb b (by cases b <;> simp))
  have hrg := free_any hr
  have hd : ∀ base : Heap, K.In base → base.Ns mainGlobals mg → ∀ (i : Nat) (d : Df), ds[i]? = some d → Stp P w K mg base tk ds i d := by
    intro base hb1 hb2 i d hi
    rcases defsB2_get hds i d hi with hg2 | ⟨e, he, hB⟩
    · rw [Nat.zero_add] at hg2
      exact hgv base hb1 hb2 i d hg2 hi
    · rw [Nat.zero_add] at hB
      exact real_stp hgi hbn hrg hi (def_real X G c he hB)
  split at hsl
  · rename_i e l he hl
    simp only [Bool.and_eq_true, decide_eq_true_eq] at hsl
    obtain ⟨a1, a2, a3, a4, a5, a6, a7, a8, b1, b2, b3, b4, b5, b6, b7, b8⟩ := hsl
    obtain ⟨fs, Fs⟩ := c.def_ _ he
    obtain ⟨fl, Fl⟩ := c.def_ _ hl
    have e1 : e.dvs K = [] := by unfold He.DefD.dvs; rw [List.isEmpty_iff.mp a2]; rfl
    have e2 : e.kws K = [] := by unfold He.DefD.kws; rw [List.isEmpty_iff.mp a3]; rfl
    have l1 : l.dvs K = [] := by unfold He.DefD.dvs; rw [List.isEmpty_iff.mp b2]; rfl
    have l2 : l.kws K = [] := by unfold He.DefD.kws; rw [List.isEmpty_iff.mp b3]; rfl
    rw [e1, e2] at Fs
    rw [l1, l2] at Fl
    have ms : mg ("_law_state" : Str) = some (.ref (He.fAd K e.at_)) := by
      rw [a1]; exact He.glo_ok X G (fact_of c (glo_any a4))
    have ml : mg ("law" : Str) = some (.ref (He.fAd K l.at_)) := by
      rw [b1]; exact He.glo_ok X G (fact_of c (glo_any b4))
    rw [hf] at ml
    cases ml
    have bs := FunD.bindsN Fs fun _ _ _ _ _ _ us hl => par_ok a5 hl
    have bl := FunD.bindsA Fl fun _ _ _ _ _ _ us hl => par_ok b5 hl
    rw [hx] at bl
    refine ⟨fl, fun s v => bl s [v] rfl, fun base bi bn => ?_⟩
    have st := state_ok (P := P) (w := w) (mg := mg) (base := base) (k := n - 1) Fs (scope_ok a7) (by rw [List.length_take]; omega) a6 a8 hbn hrg
    have sn : n - 1 + 1 = n := by omega
    rw [sn] at st
    have S := scope_ok b7
    rw [hx] at S
    exact law_ok2 (P := P) (w := w) (m := lawN.length - 2) (W := W) Fl S rfl (by omega) b8 hgi hbn hrg ⟨_, fs, _, ms, Fs.kp, bs, st⟩ (lvl_all (hd base bi bn) n) hlaw
  · cases hsl
end
end Ev

namespace K14
open Ev PySem
def gi : List (Str × Int) := [("MOST_SIZE", 2000), ("MOST_STEPS", 5000), ("MOST_INTEGER", 1000000000000000000000000000000), ("MOST_VALUE", 1000000), ("MOST_CALLS", 20000), ("MOST_PLACES", 400), ("MOST_CUTS", 2000)]
def b0 : S := (.seq (.ret (.or (.cmp .Eq (.blt .len (.cons (.var 0) .nil)) (.int 0)) (.cmp .Eq (.ix (.ix (.var 0) (.int 0)) (.int 0)) (.tup .nil))))
  .nil)
def d0 : Df := ⟨"is_whole", 1, ["one", "0", "1", "2", "3", "4", "5", "6", "7", "8", "9", "10", "11"], 1000000, b0⟩
def b1 : S := (.seq (.ifS (.not (.call 0 (.cons (.var 0) .nil))) (.seq .bad
  .nil) .nil)
  (.seq (.ret (.ite (.cmp .Gt (.blt .len (.cons (.var 0) .nil)) (.int 0)) (.ix (.ix (.var 0) (.int 0)) (.int 1)) (.int 0)))
  .nil))
def d1 : Df := ⟨"integer", 1, ["one", "0", "1", "2", "3", "4", "5", "6", "7", "8", "9", "10", "11"], 1000000, b1⟩
def b2 : S := (.seq (.ret (.ite (.cmp .Gt (.var 1) (.int 0)) (.tup (.cons (.tup (.cons (.var 0) (.cons (.var 1) .nil))) .nil)) (.tup .nil)))
  .nil)
def d2 : Df := ⟨"term", 2, ["exponent", "count", "0", "1", "2", "3", "4", "5", "6", "7", "8", "9", "10"], 1000000, b2⟩
def b3 : S := (.seq (.forS (.nm 2) (.rng (.cons (.blt .min (.cons (.blt .len (.cons (.var 0) .nil)) (.cons (.blt .len (.cons (.var 1) .nil)) .nil))) .nil)) (.seq (.asg (.nm 3) (.call 3 (.cons (.ix (.ix (.var 0) (.var 2)) (.int 0)) (.cons (.ix (.ix (.var 1) (.var 2)) (.int 0)) .nil))))
  (.seq (.ifS (.cmp .NotEq (.var 3) (.int 0)) (.seq (.ret (.var 3))
  .nil) .nil)
  (.seq (.ifS (.cmp .NotEq (.ix (.ix (.var 0) (.var 2)) (.int 1)) (.ix (.ix (.var 1) (.var 2)) (.int 1))) (.seq (.ret (.ite (.cmp .Gt (.ix (.ix (.var 0) (.var 2)) (.int 1)) (.ix (.ix (.var 1) (.var 2)) (.int 1))) (.int 1) (.bin .sub (.int 0) (.int 1))))
  .nil) .nil)
  .nil))))
  (.seq (.ret (.ite (.cmp .Eq (.blt .len (.cons (.var 0) .nil)) (.blt .len (.cons (.var 1) .nil))) (.int 0) (.ite (.cmp .Gt (.blt .len (.cons (.var 0) .nil)) (.blt .len (.cons (.var 1) .nil))) (.int 1) (.bin .sub (.int 0) (.int 1)))))
  .nil))
def d3 : Df := ⟨"compared", 2, ["one", "other", "k", "told", "0", "1", "2", "3", "4", "5", "6", "7", "8"], 1000000, b3⟩
def b4 : S := (.seq (.asg (.nm 1) (.lst .nil))
  (.seq (.forS (.nm 2) (.var 0) (.seq (.ins 1 (.blt .len (.cons (.comp [("other", 3)] (.nm 3) (.var 1) (.cmp .LtE (.call 3 (.cons (.var 3) (.cons (.var 2) .nil))) (.int 0)) (.var 3)) .nil)) (.var 2))
  .nil))
  (.seq (.frz [1] (.ret (.var 1)))
  .nil)))
def d4 : Df := ⟨"ascending", 1, ["row", "found", "one", "other", "0", "1", "2", "3", "4", "5", "6", "7", "8"], 1000000, b4⟩
def b5 : S := (.seq (.ret (.and (.cmp .Gt (.blt .len (.cons (.var 0) .nil)) (.int 0)) (.cmp .Eq (.ix (.ix (.var 0) (.neg (.int 1))) (.int 0)) (.tup .nil))))
  .nil)
def d5 : Df := ⟨"is_next", 1, ["one", "0", "1", "2", "3", "4", "5", "6", "7", "8", "9", "10", "11"], 1000000, b5⟩
def b6 : S := (.seq (.ret (.and (.cmp .Gt (.blt .len (.cons (.var 0) .nil)) (.int 0)) (.cmp .NotEq (.ix (.ix (.var 0) (.neg (.int 1))) (.int 0)) (.tup .nil))))
  .nil)
def d6 : Df := ⟨"is_limit", 1, ["one", "0", "1", "2", "3", "4", "5", "6", "7", "8", "9", "10", "11"], 1000000, b6⟩
def b7 : S := (.seq (.ifS (.not (.call 5 (.cons (.var 0) .nil))) (.seq .bad
  .nil) .nil)
  (.seq (.ret (.bin .add (.sl (.var 0) .nil (.neg (.int 1))) (.call 2 (.cons (.tup .nil) (.cons (.bin .sub (.ix (.ix (.var 0) (.neg (.int 1))) (.int 1)) (.int 1)) .nil)))))
  .nil))
def d7 : Df := ⟨"before", 1, ["one", "0", "1", "2", "3", "4", "5", "6", "7", "8", "9", "10", "11"], 1000000, b7⟩
def b8 : S := (.seq (.ret (.blt .max (.cons (.bin .add (.lst (.cons (.int 0) .nil)) (.comp [("exponent", 1), ("count", 2)] (.tp [1, 2]) (.var 0) .nil (.bin .add (.int 1) (.call 8 (.cons (.var 1) .nil))))) .nil)))
  .nil)
def d8 : Df := ⟨"depth", 1, ["one", "exponent", "count", "0", "1", "2", "3", "4", "5", "6", "7", "8", "9"], 1000000, b8⟩
def b9 : S := (.seq (.ret (.blt .sum (.cons (.comp [("exponent", 1), ("count", 2)] (.tp [1, 2]) (.var 0) .nil (.bin .add (.int 1) (.call 9 (.cons (.var 1) .nil)))) .nil)))
  .nil)
def d9 : Df := ⟨"many_terms", 1, ["one", "exponent", "count", "0", "1", "2", "3", "4", "5", "6", "7", "8", "9"], 1000000, b9⟩
def b10 : S := (.seq (.ifS (.or (.cmp .Gt (.call 9 (.cons (.var 0) .nil)) (.gint 0 2000)) (.cmp .Gt (.call 8 (.cons (.var 0) .nil)) (.int 40))) (.seq .bad
  .nil) .nil)
  (.seq (.ret (.var 0))
  .nil))
def d10 : Df := ⟨"bounded", 1, ["one", "0", "1", "2", "3", "4", "5", "6", "7", "8", "9", "10", "11"], 1000000, b10⟩
def b11 : S := (.seq (.ifS (.not (.call 6 (.cons (.var 0) .nil))) (.seq .bad
  .nil) .nil)
  (.seq (.asg (.tp [3, 4]) (.ix (.var 0) (.neg (.int 1))))
  (.seq (.asg (.nm 2) (.bin .add (.sl (.var 0) .nil (.neg (.int 1))) (.call 2 (.cons (.var 3) (.cons (.bin .sub (.var 4) (.int 1)) .nil)))))
  (.seq (.ifS (.call 5 (.cons (.var 3) .nil)) (.seq (.frz [2] (.ret (.ite (.cmp .Gt (.var 1) (.int 0)) (.bin .add (.var 2) (.call 2 (.cons (.call 7 (.cons (.var 3) .nil)) (.cons (.var 1) .nil)))) (.var 2))))
  .nil) .nil)
  (.seq (.ret (.bin .add (.var 2) (.call 2 (.cons (.call 11 (.cons (.var 3) (.cons (.var 1) .nil))) (.cons (.int 1) .nil)))))
  .nil)))))
def d11 : Df := ⟨"under", 2, ["one", "number", "low", "exponent", "count", "0", "1", "2", "3", "4", "5", "6", "7"], 1000000, b11⟩
def b12 : S := (.seq (.ifS (.cmp .Eq (.blt .len (.cons (.var 0) .nil)) (.int 0)) (.seq .bad
  .nil) .nil)
  (.seq (.ret (.ite (.call 5 (.cons (.var 0) .nil)) (.call 7 (.cons (.var 0) .nil)) (.call 11 (.cons (.var 0) (.cons (.var 1) .nil)))))
  .nil))
def d12 : Df := ⟨"below", 2, ["one", "number", "0", "1", "2", "3", "4", "5", "6", "7", "8", "9", "10"], 1000000, b12⟩
def b13 : S := (.seq (.asg (.nm 4) (.lst (.cons (.var 0) .nil)))
  (.seq (.whileS [] (.cmp .Gt (.blt .len (.cons (.ix (.var 4) (.neg (.int 1))) .nil)) (.int 0)) (.seq (.ifS (.cmp .Gt (.blt .len (.cons (.var 4) .nil)) (.var 3)) (.seq .bad
  .nil) .nil)
  (.seq (.app 4 (.call 12 (.cons (.ix (.var 4) (.neg (.int 1))) (.cons (.var 1) .nil))))
  (.seq (.aug 1 false (.blt .int (.cons (.var 2) .nil)))
  .nil))))
  (.seq (.frz [4] (.ret (.var 4)))
  .nil)))
def d13 : Df := ⟨"row_down", 4, ["one", "number", "grows", "most", "found", "0", "1", "2", "3", "4", "5", "6", "7"], 1000000, b13⟩
def b14 : S := (.seq (.asg (.nm 2) (.int 0))
  (.seq (.forS (.tp [3, 4]) (.rev (.var 0)) (.seq (.ifS (.not (.call 0 (.cons (.var 3) .nil))) (.seq .bad
  .nil) .nil)
  (.seq (.asg (.nm 2) (.bin .add (.var 2) (.bin .mul (.var 4) (.call 15 (.cons (.call 1 (.cons (.var 3) .nil)) (.cons (.var 1) .nil))))))
  .nil)))
  (.seq (.frz [2] (.ret (.var 2)))
  .nil)))
def d14 : Df := ⟨"long_down", 2, ["one", "number", "found", "exponent", "count", "0", "1", "2", "3", "4", "5", "6", "7"], 1000000, b14⟩
def b15 : S := (.seq (.ifS (.cmp .Eq (.var 0) (.int 0)) (.seq (.ret (.int 1))
  .nil) .nil)
  (.seq (.asg (.nm 2) (.int 0))
  (.seq (.forS (.nm 3) (.rng (.cons (.var 0) .nil)) (.seq (.asg (.nm 2) (.bin .add (.int 1) (.bin .mul (.var 1) (.ite (.cmp .Gt (.var 3) (.int 0)) (.var 2) (.int 1)))))
  .nil))
  (.seq (.frz [2] (.ret (.var 2)))
  .nil))))
def d15 : Df := ⟨"steps_of", 2, ["exponent", "number", "found", "turn", "0", "1", "2", "3", "4", "5", "6", "7", "8"], 1000000, b15⟩
def b16 : S := (.seq (.par [2, 3] (.cons (.lst .nil) (.cons (.int 0) .nil)))
  (.seq (.whileS [] (.cmp .Gt (.var 0) (.int 0)) (.seq (.ifS (.cmp .Gt (.bin .mod (.var 0) (.var 1)) (.int 0)) (.seq (.frz [3] (.app 2 (.tup (.cons (.call 16 (.cons (.var 3) (.cons (.var 1) .nil))) (.cons (.bin .mod (.var 0) (.var 1)) .nil)))))
  .nil) .nil)
  (.seq (.par [0, 3] (.cons (.bin .fdiv (.var 0) (.var 1)) (.cons (.bin .add (.var 3) (.int 1)) .nil)))
  .nil)))
  (.seq (.ret (.blt .tuple (.cons (.rev (.var 2)) .nil)))
  .nil)))
def d16 : Df := ⟨"in_base", 2, ["number", "base", "found", "place", "0", "1", "2", "3", "4", "5", "6", "7", "8"], 1000000, b16⟩
def b17 : S := (.seq (.asg (.nm 2) (.int 0))
  (.seq (.forS (.tp [3, 4]) (.var 0) (.seq (.aug 2 false (.bin .mul (.var 4) (.call 18 (.cons (.var 1) (.cons (.call 17 (.cons (.var 3) (.cons (.var 1) .nil))) .nil)))))
  (.seq (.ifS (.cmp .Gt (.var 2) (.gint 2 1000000000000000000000000000000)) (.seq .bad
  .nil) .nil)
  .nil)))
  (.seq (.ret (.var 2))
  .nil)))
def d17 : Df := ⟨"from_base", 2, ["told", "base", "found", "exponent", "digit", "0", "1", "2", "3", "4", "5", "6", "7"], 1000000, b17⟩
def b18 : S := (.seq (.ifS (.cmp .Lt (.var 0) (.int 2)) (.seq (.ret (.ite (.cmp .Gt (.var 1) (.int 0)) (.var 0) (.int 1)))
  .nil) .nil)
  (.seq (.asg (.nm 2) (.int 1))
  (.seq (.forS (.nm 3) (.rng (.cons (.var 1) .nil)) (.seq (.asg (.nm 2) (.bin .mul (.var 2) (.var 0)))
  (.seq (.ifS (.cmp .Gt (.var 2) (.gint 2 1000000000000000000000000000000)) (.seq .bad
  .nil) .nil)
  .nil)))
  (.seq (.frz [2] (.ret (.var 2)))
  .nil))))
def d18 : Df := ⟨"raised", 2, ["base", "many", "found", "turn", "0", "1", "2", "3", "4", "5", "6", "7", "8"], 1000000, b18⟩
def b19 : S := (.seq (.ret (.call 17 (.cons (.call 16 (.cons (.var 0) (.cons (.var 1) .nil))) (.cons (.var 2) .nil))))
  .nil)
def d19 : Df := ⟨"put_on", 3, ["number", "base", "other", "0", "1", "2", "3", "4", "5", "6", "7", "8", "9"], 1000000, b19⟩
def b20 : S := (.seq (.ret (.blt .tuple (.cons (.comp [("exponent", 2), ("digit", 3)] (.tp [2, 3]) (.call 16 (.cons (.var 0) (.cons (.var 1) .nil))) .nil (.tup (.cons (.call 21 (.cons (.var 2) .nil)) (.cons (.var 3) .nil)))) .nil)))
  .nil)
def d20 : Df := ⟨"endless_base", 2, ["number", "base", "exponent", "digit", "0", "1", "2", "3", "4", "5", "6", "7", "8"], 1000000, b20⟩
def b21 : S := (.seq (.ret (.blt .tuple (.cons (.comp [("exponent", 1), ("digit", 2)] (.tp [1, 2]) (.var 0) .nil (.tup (.cons (.call 21 (.cons (.var 1) .nil)) (.cons (.var 2) .nil)))) .nil)))
  .nil)
def d21 : Df := ⟨"told_number", 1, ["told", "exponent", "digit", "0", "1", "2", "3", "4", "5", "6", "7", "8", "9"], 1000000, b21⟩
def b22 : S := (.seq (.par [2, 3] (.cons (.lst (.cons (.var 0) .nil)) (.cons (.int 2) .nil)))
  (.seq (.whileS [] (.and (.cmp .Gt (.ix (.var 2) (.neg (.int 1))) (.int 0)) (.cmp .Lt (.blt .len (.cons (.var 2) .nil)) (.var 1))) (.seq (.app 2 (.bin .sub (.call 19 (.cons (.ix (.var 2) (.neg (.int 1))) (.cons (.var 3) (.cons (.bin .add (.var 3) (.int 1)) .nil)))) (.int 1)))
  (.seq (.aug 3 false (.int 1))
  .nil)))
  (.seq (.frz [2] (.ret (.var 2)))
  .nil)))
def d22 : Df := ⟨"growing", 2, ["number", "most", "found", "base", "0", "1", "2", "3", "4", "5", "6", "7", "8"], 1000000, b22⟩
def b23 : S := (.seq (.asg (.nm 2) (.call 22 (.cons (.var 0) (.cons (.var 1) .nil))))
  (.seq (.ret (.comp [("k", 3)] (.nm 3) (.rng (.cons (.blt .len (.cons (.var 2) .nil)) .nil)) .nil (.call 20 (.cons (.ix (.var 2) (.var 3)) (.cons (.bin .add (.var 3) (.int 2)) .nil)))))
  .nil))
def d23 : Df := ⟨"growing_below", 2, ["number", "most", "row", "k", "0", "1", "2", "3", "4", "5", "6", "7", "8"], 1000000, b23⟩
def b24 : S := (.seq (.ret (.blt .all (.cons (.comp [("k", 1)] (.nm 1) (.rng (.cons (.bin .sub (.blt .len (.cons (.var 0) .nil)) (.int 1)) .nil)) .nil (.cmp .Lt (.call 3 (.cons (.ix (.var 0) (.bin .add (.var 1) (.int 1))) (.cons (.ix (.var 0) (.var 1)) .nil))) (.int 0))) .nil)))
  .nil)
def d24 : Df := ⟨"is_falling", 1, ["row", "k", "0", "1", "2", "3", "4", "5", "6", "7", "8", "9", "10"], 1000000, b24⟩
def b25 : S := (.seq (.par [2, 3] (.cons (.var 1) (.cons (.int 0) .nil)))
  (.seq (.whileS [] (.cmp .Gt (.blt .len (.cons (.var 0) .nil)) (.int 0)) (.seq (.ifS (.call 5 (.cons (.var 0) .nil)) (.seq (.par [0, 2] (.cons (.call 7 (.cons (.var 0) .nil)) (.cons (.bin .add (.var 2) (.int 1)) .nil)))
  .nil) (.seq (.frz [2] (.asg (.nm 0) (.call 11 (.cons (.var 0) (.cons (.var 2) .nil)))))
  .nil))
  (.seq (.aug 3 false (.int 1))
  (.seq (.ifS (.cmp .Gt (.var 3) (.gint 1 5000)) (.seq .bad
  .nil) .nil)
  .nil))))
  (.seq (.frz [2] (.ret (.var 2)))
  .nil)))
def d25 : Df := ⟨"grown", 2, ["one", "number", "count", "steps", "0", "1", "2", "3", "4", "5", "6", "7", "8"], 1000000, b25⟩
def b26 : S := (.seq (.ifS (.cmp .Eq (.blt .len (.cons (.var 1) .nil)) (.int 0)) (.seq (.ret (.var 0))
  .nil) .nil)
  (.seq (.asg (.nm 2) (.ix (.ix (.var 1) (.int 0)) (.int 0)))
  (.seq (.asg (.nm 3) (.comp [("pair", 5)] (.nm 5) (.var 0) (.cmp .Gt (.call 3 (.cons (.ix (.var 5) (.int 0)) (.cons (.var 2) .nil))) (.int 0)) (.var 5)))
  (.seq (.asg (.nm 4) (.comp [("pair", 5)] (.nm 5) (.var 0) (.cmp .Eq (.call 3 (.cons (.ix (.var 5) (.int 0)) (.cons (.var 2) .nil))) (.int 0)) (.var 5)))
  (.seq (.ifS (.cmp .Gt (.blt .len (.cons (.var 4) .nil)) (.int 0)) (.seq (.ret (.bin .add (.bin .add (.blt .tuple (.cons (.var 3) .nil)) (.tup (.cons (.tup (.cons (.var 2) (.cons (.bin .add (.ix (.ix (.var 4) (.int 0)) (.int 1)) (.ix (.ix (.var 1) (.int 0)) (.int 1))) .nil))) .nil))) (.sl (.var 1) (.int 1) .nil)))
  .nil) .nil)
  (.seq (.ret (.bin .add (.blt .tuple (.cons (.var 3) .nil)) (.var 1)))
  .nil))))))
def d26 : Df := ⟨"plus", 2, ["one", "other", "high", "kept", "same", "pair", "0", "1", "2", "3", "4", "5", "6"], 1000000, b26⟩
def b27 : S := (.seq (.asg (.nm 2) (.call 3 (.cons (.tup (.cons (.tup (.cons (.tup (.cons (.tup (.cons (.tup (.cons (.tup (.cons (.tup (.cons (.tup (.cons (.tup (.cons (.tup (.cons (.tup (.cons (.tup (.cons (.tup (.cons (.tup (.cons (.tup (.cons (.tup (.cons (.tup (.cons (.tup (.cons (.tup .nil) (.cons (.int 1) .nil))) .nil)) (.cons (.int 1) .nil))) .nil)) (.cons (.int 1) .nil))) .nil)) (.cons (.int 1) .nil))) .nil)) (.cons (.int 1) .nil))) .nil)) (.cons (.int 1) .nil))) .nil)) (.cons (.int 1) .nil))) .nil)) (.cons (.int 1) .nil))) .nil)) (.cons (.int 1) .nil))) .nil)) (.cons (.tup (.cons (.tup (.cons (.tup (.cons (.tup (.cons (.tup (.cons (.tup (.cons (.tup (.cons (.tup (.cons (.tup (.cons (.tup (.cons (.tup (.cons (.tup (.cons (.tup (.cons (.tup (.cons (.tup (.cons (.tup (.cons (.tup (.cons (.tup (.cons (.tup .nil) (.cons (.int 1) .nil))) .nil)) (.cons (.int 1) .nil))) .nil)) (.cons (.int 1) .nil))) .nil)) (.cons (.int 1) .nil))) .nil)) (.cons (.int 1) .nil))) .nil)) (.cons (.int 1) .nil))) .nil)) (.cons (.int 1) .nil))) .nil)) (.cons (.int 1) .nil))) .nil)) (.cons (.int 1) .nil))) .nil)) .nil)))) (.seq (.ifS (.chn .LtE .LtE (.int 1) (.var 1) (.int 3)) (.seq (.ifS (.cmp .Eq (.blt .len (.cons (.var 0) .nil)) (.int 0)) (.seq (.asg (.nm 3) (.bin .add (.var 0) (.tup .nil))) (.seq (.ret (.bin .add (.var 1) (.int 1))) .nil)) .nil) (.seq (.ifS (.cmp .Eq (.blt .len (.cons (.var 0) .nil)) (.int 1)) .nil (.seq .bad .nil)) (.seq (.asg (.nm 3) (.bin .add (.var 0) (.tup .nil))) (.seq (.ifS (.cmp .Eq (.blt .len (.cons (.ix (.var 0) (.int 0)) .nil)) (.int 2)) .nil (.seq .bad .nil)) (.seq (.asg (.nm 4) (.bin .add (.ix (.var 0) (.int 0)) (.tup .nil))) (.seq (.ifS (.cmp .Eq (.blt .len (.cons (.ix (.ix (.var 0) (.int 0)) (.int 0)) .nil)) (.int 0)) .nil (.seq .bad .nil)) (.seq (.asg (.nm 5) (.bin .add (.ix (.ix (.var 0) (.int 0)) (.int 0)) (.tup .nil))) (.seq (.ifS (.chn .Lt .Lt (.int 0) (.ix (.ix (.var 0) (.int 0)) (.int 1)) (.int 2)) (.seq (.ret (.bin .mul (.int 2) (.var 1))) .nil) .nil) (.seq (.ifS (.chn .Lt .Lt (.int 1) (.ix (.ix (.var 0) (.int 0)) (.int 1)) (.int 3)) (.seq (.ret (.bin .mul (.var 1) (.bin .shl (.int 1) (.var 1)))) .nil) .nil) (.seq .bad .nil)))))))))) (.seq .bad .nil)) (.seq .bad .nil)))
def d27 : Df := ⟨"by_rounds", 2, ["one", "number", "0", "1", "2", "3", "4", "5", "6", "7", "8", "9", "10"], 1000000, b27⟩
def b28 : S := (.seq (.asg (.nm 2) (.int 0))
  (.seq (.whileS [] (.cmp .Gt (.blt .len (.cons (.var 0) .nil)) (.int 0)) (.seq (.ifS (.call 5 (.cons (.var 0) .nil)) (.seq (.par [0, 1] (.cons (.call 7 (.cons (.var 0) .nil)) (.cons (.bin .add (.var 1) (.int 1)) .nil)))
  .nil) (.seq (.frz [1] (.asg (.nm 0) (.call 11 (.cons (.var 0) (.cons (.var 1) .nil)))))
  .nil))
  (.seq (.aug 2 false (.int 1))
  (.seq (.ifS (.or (.cmp .Gt (.var 2) (.gint 4 20000)) (.cmp .Gt (.var 1) (.gint 3 1000000))) (.seq .bad
  .nil) .nil)
  .nil))))
  (.seq (.frz [1] (.ret (.var 1)))
  .nil)))
def d28 : Df := ⟨"by_steps", 2, ["one", "number", "count", "0", "1", "2", "3", "4", "5", "6", "7", "8", "9"], 1000000, b28⟩
def b29 : S := (.seq (.ret (.or (.cmp .Eq (.blt .len (.cons (.var 0) .nil)) (.int 0)) (.or (.cmp .Eq (.blt .len (.cons (.var 1) .nil)) (.int 0)) (.cmp .GtE (.call 3 (.cons (.ix (.ix (.var 0) (.neg (.int 1))) (.int 0)) (.cons (.ix (.ix (.var 1) (.int 0)) (.int 0)) .nil))) (.int 0)))))
  .nil)
def d29 : Df := ⟨"fits_behind", 2, ["one", "other", "0", "1", "2", "3", "4", "5", "6", "7", "8", "9", "10"], 1000000, b29⟩
def b30 : S := (.seq (.ifS (.not (.call 29 (.cons (.var 0) (.cons (.var 1) .nil)))) (.seq .bad
  .nil) .nil)
  (.seq (.ret (.call 28 (.cons (.var 0) (.cons (.call 28 (.cons (.var 1) (.cons (.var 2) .nil))) .nil))))
  .nil))
def d30 : Df := ⟨"in_turn", 3, ["one", "other", "number", "0", "1", "2", "3", "4", "5", "6", "7", "8", "9"], 1000000, b30⟩
def b31 : S := (.seq (.ifS (.not (.call 29 (.cons (.var 0) (.cons (.var 1) .nil)))) (.seq .bad
  .nil) .nil)
  (.seq (.ret (.call 28 (.cons (.call 26 (.cons (.var 0) (.cons (.var 1) .nil))) (.cons (.var 2) .nil))))
  .nil))
def d31 : Df := ⟨"together", 3, ["one", "other", "number", "0", "1", "2", "3", "4", "5", "6", "7", "8", "9"], 1000000, b31⟩
def b32 : S := (.seq (.ret (.call 28 (.cons (.call 2 (.cons (.var 0) (.cons (.int 1) .nil))) (.cons (.var 1) .nil))))
  .nil)
def d32 : Df := ⟨"power_steps", 2, ["exponent", "number", "0", "1", "2", "3", "4", "5", "6", "7", "8", "9", "10"], 1000000, b32⟩
def b33 : S := (.seq (.asg (.tp [2, 3]) (.tup (.cons (.int 0) (.cons (.int 0) .nil))))
  (.seq (.whileS [] (.cmp .Gt (.blt .len (.cons (.var 0) .nil)) (.int 0)) (.seq (.aug 3 false (.blt .int (.cons (.call 5 (.cons (.var 0) .nil)) .nil)))
  (.seq (.asg (.nm 0) (.call 12 (.cons (.var 0) (.cons (.var 1) .nil))))
  (.seq (.aug 2 false (.int 1))
  (.seq (.ifS (.cmp .Gt (.var 2) (.gint 4 20000)) (.seq .bad
  .nil) .nil)
  .nil)))))
  (.seq (.ret (.var 3))
  .nil)))
def d33 : Df := ⟨"slow", 2, ["one", "number", "count", "found", "0", "1", "2", "3", "4", "5", "6", "7", "8"], 1000000, b33⟩
def b34 : S := (.seq (.par [2, 3, 4] (.cons (.lst .nil) (.cons (.blt .list (.cons (.var 0) .nil)) (.cons (.blt .list (.cons (.var 1) .nil)) .nil))))
  (.seq (.whileS [] (.or (.cmp .Gt (.blt .len (.cons (.var 3) .nil)) (.int 0)) (.cmp .Gt (.blt .len (.cons (.var 4) .nil)) (.int 0))) (.seq (.ifS (.cmp .Eq (.blt .len (.cons (.var 4) .nil)) (.int 0)) (.seq (.asg (.nm 5) (.int 1))
  .nil) (.seq (.ifS (.cmp .Eq (.blt .len (.cons (.var 3) .nil)) (.int 0)) (.seq (.asg (.nm 5) (.bin .sub (.int 0) (.int 1)))
  .nil) (.seq (.asg (.nm 5) (.call 3 (.cons (.ix (.ix (.var 3) (.int 0)) (.int 0)) (.cons (.ix (.ix (.var 4) (.int 0)) (.int 0)) .nil))))
  .nil))
  .nil))
  (.seq (.ifS (.cmp .Eq (.var 5) (.int 0)) (.seq (.app 2 (.tup (.cons (.ix (.ix (.var 3) (.int 0)) (.int 0)) (.cons (.bin .add (.ix (.ix (.var 3) (.int 0)) (.int 1)) (.ix (.ix (.var 4) (.int 0)) (.int 1))) .nil))))
  (.seq (.par [3, 4] (.cons (.sl (.var 3) (.int 1) .nil) (.cons (.sl (.var 4) (.int 1) .nil) .nil)))
  .nil)) (.seq (.ifS (.cmp .Gt (.var 5) (.int 0)) (.seq (.app 2 (.ix (.var 3) (.int 0)))
  (.seq (.asg (.nm 3) (.sl (.var 3) (.int 1) .nil))
  .nil)) (.seq (.app 2 (.ix (.var 4) (.int 0)))
  (.seq (.asg (.nm 4) (.sl (.var 4) (.int 1) .nil))
  .nil)))
  .nil))
  .nil)))
  (.seq (.ret (.call 10 (.cons (.blt .tuple (.cons (.var 2) .nil)) .nil)))
  .nil)))
def d34 : Df := ⟨"natural_plus", 2, ["one", "other", "found", "left", "right", "told", "0", "1", "2", "3", "4", "5", "6"], 1000000, b34⟩
def b35 : S := (.seq (.asg (.nm 1) (.tup .nil))
  (.seq (.forS (.nm 2) (.var 0) (.seq (.asg (.nm 1) (.call 34 (.cons (.var 1) (.cons (.var 2) .nil))))
  .nil))
  (.seq (.ret (.var 1))
  .nil)))
def d35 : Df := ⟨"natural_total", 1, ["row", "found", "one", "0", "1", "2", "3", "4", "5", "6", "7", "8", "9"], 1000000, b35⟩
def b36 : S := (.seq (.ret (.bin .add (.int 1) (.blt .sum (.cons (.comp [("one", 1)] (.nm 1) (.var 0) .nil (.call 36 (.cons (.var 1) .nil))) .nil))))
  .nil)
def d36 : Df := ⟨"many_places", 1, ["tree", "one", "0", "1", "2", "3", "4", "5", "6", "7", "8", "9", "10"], 1000000, b36⟩
def b37 : S := (.seq (.ret (.call 35 (.cons (.comp [("one", 1)] (.nm 1) (.var 0) .nil (.call 2 (.cons (.call 37 (.cons (.var 1) .nil)) (.cons (.int 1) .nil)))) .nil)))
  .nil)
def d37 : Df := ⟨"number_of", 1, ["tree", "one", "0", "1", "2", "3", "4", "5", "6", "7", "8", "9", "10"], 1000000, b37⟩
def b38 : S := (.seq (.asg (.nm 1) (.lst .nil))
  (.seq (.forS (.tp [2, 3]) (.var 0) (.seq (.ifS (.cmp .Gt (.var 3) (.gint 5 400)) (.seq .bad
  .nil) .nil)
  (.seq (.ext 1 (.bin .mul (.lst (.cons (.call 38 (.cons (.var 2) .nil)) .nil)) (.var 3)))
  .nil)))
  (.seq (.ifS (.cmp .Gt (.call 36 (.cons (.blt .tuple (.cons (.var 1) .nil)) .nil)) (.gint 5 400)) (.seq .bad
  .nil) .nil)
  (.seq (.ret (.blt .tuple (.cons (.var 1) .nil)))
  .nil))))
def d38 : Df := ⟨"tree_of", 1, ["number", "found", "exponent", "count", "0", "1", "2", "3", "4", "5", "6", "7", "8"], 1000000, b38⟩
def b39 : S := (.seq (.asg (.nm 1) (.lst .nil))
  (.seq (.forS (.nm 2) (.rng (.cons (.blt .len (.cons (.var 0) .nil)) .nil)) (.seq (.ifS (.cmp .Eq (.ix (.var 0) (.var 2)) (.tup .nil)) (.seq (.app 1 (.tup (.cons (.var 2) .nil)))
  .nil) (.seq (.ext 1 (.comp [("way", 3)] (.nm 3) (.call 39 (.cons (.ix (.var 0) (.var 2)) .nil)) .nil (.bin .add (.tup (.cons (.var 2) .nil)) (.var 3))))
  .nil))
  .nil))
  (.seq (.frz [1] (.ret (.var 1)))
  .nil)))
def d39 : Df := ⟨"heads", 1, ["tree", "found", "k", "way", "0", "1", "2", "3", "4", "5", "6", "7", "8"], 1000000, b39⟩
def b40 : S := (.seq (.asg (.nm 2) (.var 0))
  (.seq (.forS (.nm 3) (.var 1) (.seq (.ifS (.not (.chn .LtE .Lt (.int 0) (.var 3) (.blt .len (.cons (.var 2) .nil)))) (.seq .bad
  .nil) .nil)
  (.seq (.asg (.nm 2) (.ix (.var 2) (.var 3)))
  .nil)))
  (.seq (.ret (.var 2))
  .nil)))
def d40 : Df := ⟨"branch_at", 2, ["tree", "way", "now", "k", "0", "1", "2", "3", "4", "5", "6", "7", "8"], 1000000, b40⟩
def b41 : S := (.seq (.ifS (.cmp .Eq (.blt .len (.cons (.var 1) .nil)) (.int 1)) (.seq (.ret (.bin .add (.bin .add (.sl (.var 0) .nil (.ix (.var 1) (.int 0))) (.var 2)) (.sl (.var 0) (.bin .add (.ix (.var 1) (.int 0)) (.int 1)) .nil)))
  .nil) .nil)
  (.seq (.ret (.bin .add (.bin .add (.sl (.var 0) .nil (.ix (.var 1) (.int 0))) (.tup (.cons (.call 41 (.cons (.ix (.var 0) (.ix (.var 1) (.int 0))) (.cons (.sl (.var 1) (.int 1) .nil) (.cons (.var 2) .nil)))) .nil))) (.sl (.var 0) (.bin .add (.ix (.var 1) (.int 0)) (.int 1)) .nil)))
  .nil))
def d41 : Df := ⟨"put", 3, ["tree", "way", "branches", "0", "1", "2", "3", "4", "5", "6", "7", "8", "9"], 1000000, b41⟩
def b42 : S := (.seq (.ifS (.or (.cmp .Eq (.var 1) (.tup .nil)) (.cmp .NotEq (.call 40 (.cons (.var 0) (.cons (.var 1) .nil))) (.tup .nil))) (.seq .bad
  .nil) .nil)
  (.seq (.ifS (.cmp .Eq (.blt .len (.cons (.var 1) .nil)) (.int 1)) (.seq (.ret (.bin .add (.sl (.var 0) .nil (.ix (.var 1) (.int 0))) (.sl (.var 0) (.bin .add (.ix (.var 1) (.int 0)) (.int 1)) .nil)))
  .nil) .nil)
  (.seq (.asg (.nm 3) (.call 40 (.cons (.var 0) (.cons (.sl (.var 1) .nil (.neg (.int 1))) .nil))))
  (.seq (.asg (.nm 4) (.bin .add (.sl (.var 3) .nil (.ix (.var 1) (.neg (.int 1)))) (.sl (.var 3) (.bin .add (.ix (.var 1) (.neg (.int 1))) (.int 1)) .nil)))
  (.seq (.frz [4] (.ifS (.cmp .Gt (.bin .add (.bin .sub (.call 36 (.cons (.var 0) .nil)) (.int 1)) (.bin .mul (.var 2) (.call 36 (.cons (.var 4) .nil)))) (.gint 5 400)) (.seq .bad
  .nil) .nil))
  (.seq (.frz [4] (.ret (.call 41 (.cons (.var 0) (.cons (.sl (.var 1) .nil (.neg (.int 1))) (.cons (.bin .mul (.tup (.cons (.var 4) .nil)) (.bin .add (.var 2) (.int 1))) .nil))))))
  .nil))))))
def d42 : Df := ⟨"cut", 3, ["tree", "way", "many", "below", "left", "0", "1", "2", "3", "4", "5", "6", "7"], 1000000, b42⟩
def b43 : S := (.seq (.ret (.comp [("way", 2)] (.nm 2) (.call 39 (.cons (.var 0) .nil)) .nil (.call 42 (.cons (.var 0) (.cons (.var 2) (.cons (.var 1) .nil))))))
  .nil)
def d43 : Df := ⟨"all_cuts", 2, ["tree", "many", "way", "0", "1", "2", "3", "4", "5", "6", "7", "8", "9"], 1000000, b43⟩
def b44 : S := (.seq (.ret (.cmp .Lt (.call 3 (.cons (.call 37 (.cons (.call 42 (.cons (.var 0) (.cons (.var 1) (.cons (.var 2) .nil)))) .nil)) (.cons (.call 37 (.cons (.var 0) .nil)) .nil))) (.int 0)))
  .nil)
def d44 : Df := ⟨"falls", 3, ["tree", "way", "many", "0", "1", "2", "3", "4", "5", "6", "7", "8", "9"], 1000000, b44⟩
def b45 : S := (.seq (.asg (.nm 1) (.call 39 (.cons (.var 0) .nil)))
  (.seq (.ret (.ite (.cmp .NotEq (.var 1) (.lst .nil)) (.ix (.var 1) (.int 0)) .non))
  .nil))
def d45 : Df := ⟨"first_way", 1, ["tree", "rows", "0", "1", "2", "3", "4", "5", "6", "7", "8", "9", "10"], 1000000, b45⟩
def b46 : S := (.seq (.asg (.nm 1) (.call 39 (.cons (.var 0) .nil)))
  (.seq (.asg (.nm 2) (.comp [("way", 3)] (.nm 3) (.var 1) (.cmp .Eq (.blt .len (.cons (.var 3) .nil)) (.blt .min (.cons (.comp [("one", 4)] (.nm 4) (.var 1) .nil (.blt .len (.cons (.var 4) .nil))) .nil))) (.var 3)))
  (.seq (.ret (.ite (.cmp .NotEq (.var 1) (.lst .nil)) (.ix (.var 2) (.int 0)) .non))
  .nil)))
def d46 : Df := ⟨"low_way", 1, ["tree", "rows", "short", "way", "one", "0", "1", "2", "3", "4", "5", "6", "7"], 1000000, b46⟩
def b47 : S := (.seq (.asg (.nm 1) (.call 39 (.cons (.var 0) .nil)))
  (.seq (.asg (.nm 2) (.comp [("way", 3)] (.nm 3) (.var 1) (.cmp .Eq (.blt .len (.cons (.var 3) .nil)) (.blt .max (.cons (.comp [("one", 4)] (.nm 4) (.var 1) .nil (.blt .len (.cons (.var 4) .nil))) .nil))) (.var 3)))
  (.seq (.ret (.ite (.cmp .NotEq (.var 1) (.lst .nil)) (.ix (.var 2) (.int 0)) .non))
  .nil)))
def d47 : Df := ⟨"high_way", 1, ["tree", "rows", "long", "way", "one", "0", "1", "2", "3", "4", "5", "6", "7"], 1000000, b47⟩
def b48 : S := (.seq (.ifS (.cmp .NotIn (.var 1) (.tup (.cons (.str "first") (.cons (.str "high") (.cons (.str "low") .nil))))) (.seq .bad
  .nil) .nil)
  (.seq (.asg (.nm 3) (.lst (.cons (.var 0) .nil)))
  (.seq (.whileS [] (.cmp .NotEq (.ix (.var 3) (.neg (.int 1))) (.tup .nil)) (.seq (.ifS (.cmp .Gt (.blt .len (.cons (.var 3) .nil)) (.gint 6 2000)) (.seq .bad
  .nil) .nil)
  (.seq (.asg (.nm 4) (.ix (.var 3) (.neg (.int 1))))
  (.seq (.asg (.nm 5) (.ite (.cmp .Eq (.var 1) (.str "first")) (.call 45 (.cons (.var 4) .nil)) (.ite (.cmp .Eq (.var 1) (.str "low")) (.call 46 (.cons (.var 4) .nil)) (.call 47 (.cons (.var 4) .nil)))))
  (.seq (.app 3 (.call 42 (.cons (.var 4) (.cons (.var 5) (.cons (.bin .add (.var 2) (.blt .len (.cons (.var 3) .nil))) .nil)))))
  .nil)))))
  (.seq (.frz [3] (.ret (.var 3)))
  .nil))))
def d48 : Df := ⟨"battle", 3, ["tree", "rule", "many", "found", "now", "way", "0", "1", "2", "3", "4", "5", "6"], 1000000, b48⟩
def b49 : S := (.seq (.asg (.nm 2) (.call 4 (.cons (.comp [("one", 3)] (.nm 3) (.call 43 (.cons (.var 0) (.cons (.var 1) .nil))) .nil (.call 37 (.cons (.var 3) .nil))) .nil)))
  (.seq (.ret (.ite (.cmp .NotEq (.var 2) (.lst .nil)) (.ix (.var 2) (.int 0)) .non))
  .nil))
def d49 : Df := ⟨"least_cut", 2, ["tree", "many", "rows", "one", "0", "1", "2", "3", "4", "5", "6", "7", "8"], 1000000, b49⟩
def b50 : S := (.seq (.ret (.blt .max (.cons (.bin .add (.lst (.cons (.int 0) .nil)) (.comp [("exponent", 1), ("count", 2)] (.tp [1, 2]) (.var 0) .nil (.blt .max (.cons (.var 2) (.cons (.call 50 (.cons (.var 1) .nil)) .nil))))) .nil)))
  .nil)
def d50 : Df := ⟨"greatest_count", 1, ["one", "exponent", "count", "0", "1", "2", "3", "4", "5", "6", "7", "8", "9"], 1000000, b50⟩
def b51 : S := (.seq (.asg (.nm 2) (.int 0))
  (.seq (.forS (.tp [3, 4]) (.var 0) (.seq (.aug 2 false (.bin .mul (.var 4) (.call 18 (.cons (.var 1) (.cons (.call 51 (.cons (.var 3) (.cons (.var 1) .nil))) .nil)))))
  (.seq (.ifS (.cmp .Gt (.var 2) (.gint 2 1000000000000000000000000000000)) (.seq .bad
  .nil) .nil)
  .nil)))
  (.seq (.ret (.var 2))
  .nil)))
def d51 : Df := ⟨"value_at", 2, ["one", "base", "found", "exponent", "count", "0", "1", "2", "3", "4", "5", "6", "7"], 1000000, b51⟩
def b52 : S := (.seq (.ifS (.cmp .Lt (.var 1) (.int 2)) (.seq .bad
  .nil) .nil)
  (.seq (.ret (.call 16 (.cons (.var 0) (.cons (.var 1) .nil))))
  .nil))
def d52 : Df := ⟨"from_value", 2, ["number", "base", "0", "1", "2", "3", "4", "5", "6", "7", "8", "9", "10"], 1000000, b52⟩
def b53 : S := (.seq (.ret (.and (.cmp .Gt (.var 1) (.int 1)) (.cmp .Lt (.call 50 (.cons (.var 0) .nil)) (.var 1))))
  .nil)
def d53 : Df := ⟨"is_told_by", 2, ["one", "base", "0", "1", "2", "3", "4", "5", "6", "7", "8", "9", "10"], 1000000, b53⟩
def b54 : S := .nil
def d54 : Df := ⟨"_law_take", 2, ["state", "most", "numbers_left", "at", "cell", "stirred"], 1000000, b54⟩
def b55 : S := (.seq (.ret (.ix (.var 1) (.call 54 (.cons (.var 0) (.cons (.blt .len (.cons (.var 1) .nil)) .nil)))))
  .nil)
def d55 : Df := ⟨"_law_pick", 2, ["state", "row", "0", "1", "2", "3", "4", "5", "6", "7", "8", "9", "10"], 1000000, b55⟩
def b56 : S := (.seq (.forS (.nm 2) (.rng (.cons (.blt .min (.cons (.blt .len (.cons (.var 0) .nil)) (.cons (.blt .len (.cons (.var 1) .nil)) .nil))) .nil)) (.seq (.asg (.nm 3) (.call 56 (.cons (.ix (.ix (.var 0) (.var 2)) (.int 0)) (.cons (.ix (.ix (.var 1) (.var 2)) (.int 0)) .nil))))
  (.seq (.ifS (.cmp .NotEq (.var 3) (.int 0)) (.seq (.ret (.var 3))
  .nil) .nil)
  (.seq (.ifS (.cmp .NotEq (.ix (.ix (.var 0) (.var 2)) (.int 1)) (.ix (.ix (.var 1) (.var 2)) (.int 1))) (.seq (.ret (.ite (.cmp .Gt (.ix (.ix (.var 0) (.var 2)) (.int 1)) (.ix (.ix (.var 1) (.var 2)) (.int 1))) (.int 1) (.neg (.int 1))))
  .nil) .nil)
  .nil))))
  (.seq (.ret (.bin .sub (.blt .int (.cons (.cmp .Gt (.blt .len (.cons (.var 0) .nil)) (.blt .len (.cons (.var 1) .nil))) .nil)) (.blt .int (.cons (.cmp .Lt (.blt .len (.cons (.var 0) .nil)) (.blt .len (.cons (.var 1) .nil))) .nil))))
  .nil))
def d56 : Df := ⟨"_law_cmp", 2, ["one", "other", "k", "told", "0", "1", "2", "3", "4", "5", "6", "7", "8"], 1000000, b56⟩
def b57 : S := (.seq (.ret (.ite (.cmp .Gt (.var 0) (.int 0)) (.tup (.cons (.tup (.cons (.tup .nil) (.cons (.var 0) .nil))) .nil)) (.tup .nil)))
  .nil)
def d57 : Df := ⟨"_law_whole", 1, ["number", "0", "1", "2", "3", "4", "5", "6", "7", "8", "9", "10", "11"], 1000000, b57⟩
def b58 : S := (.seq (.ifS (.cmp .Eq (.blt .len (.cons (.var 1) .nil)) (.int 0)) (.seq (.ret (.var 0))
  .nil) .nil)
  (.seq (.asg (.nm 2) (.comp [("pair", 4)] (.nm 4) (.var 0) (.cmp .Gt (.call 56 (.cons (.ix (.var 4) (.int 0)) (.cons (.ix (.ix (.var 1) (.int 0)) (.int 0)) .nil))) (.int 0)) (.var 4)))
  (.seq (.asg (.nm 3) (.comp [("pair", 4)] (.nm 4) (.var 0) (.cmp .Eq (.ix (.var 4) (.int 0)) (.ix (.ix (.var 1) (.int 0)) (.int 0))) (.ix (.var 4) (.int 1))))
  (.seq (.ret (.bin .add (.bin .add (.blt .tuple (.cons (.var 2) .nil)) (.tup (.cons (.tup (.cons (.ix (.ix (.var 1) (.int 0)) (.int 0)) (.cons (.bin .add (.ix (.ix (.var 1) (.int 0)) (.int 1)) (.blt .sum (.cons (.var 3) .nil))) .nil))) .nil))) (.sl (.var 1) (.int 1) .nil)))
  .nil))))
def d58 : Df := ⟨"_law_plus", 2, ["one", "other", "high", "same", "pair", "0", "1", "2", "3", "4", "5", "6", "7"], 1000000, b58⟩
def b59 : S := (.seq (.asg (.tp [2, 3]) (.tup (.cons (.tup .nil) (.cons (.int 0) .nil))))
  (.seq (.whileS [] (.cmp .Gt (.var 0) (.int 0)) (.seq (.ifS (.cmp .Gt (.bin .mod (.blt .int (.cons (.var 0) .nil)) (.var 1)) (.int 0)) (.seq (.frz [3] (.asg (.nm 2) (.bin .add (.tup (.cons (.tup (.cons (.call 59 (.cons (.var 3) (.cons (.var 1) .nil))) (.cons (.bin .mod (.blt .int (.cons (.var 0) .nil)) (.var 1)) .nil))) .nil)) (.var 2))))
  .nil) .nil)
  (.seq (.par [0, 3] (.cons (.bin .fdiv (.var 0) (.var 1)) (.cons (.bin .add (.var 3) (.int 1)) .nil)))
  .nil)))
  (.seq (.frz [2] (.ret (.var 2)))
  .nil)))
def d59 : Df := ⟨"_law_digits", 2, ["number", "base", "found", "place", "0", "1", "2", "3", "4", "5", "6", "7", "8"], 1000000, b59⟩
def b60 : S := (.seq (.asg (.nm 2) (.int 0))
  (.seq (.forS (.tp [3, 4]) (.var 0) (.seq (.asg (.nm 5) (.int 1))
  (.seq (.forS (.nm 6) (.rng (.cons (.call 60 (.cons (.var 3) (.cons (.var 1) .nil))) .nil)) (.seq (.asg (.nm 5) (.bin .mul (.var 5) (.var 1)))
  .nil))
  (.seq (.asg (.nm 2) (.bin .add (.var 2) (.bin .mul (.var 5) (.var 4))))
  .nil))))
  (.seq (.frz [2] (.ret (.var 2)))
  .nil)))
def d60 : Df := ⟨"_law_value", 2, ["one", "base", "found", "exponent", "count", "told", "turn", "0", "1", "2", "3", "4", "5"], 1000000, b60⟩
def b61 : S := (.seq (.asg (.tp [3, 4]) (.ix (.var 0) (.neg (.int 1))))
  (.seq (.asg (.nm 2) (.bin .add (.sl (.var 0) .nil (.neg (.int 1))) (.ite (.cmp .Gt (.var 4) (.int 1)) (.tup (.cons (.tup (.cons (.var 3) (.cons (.bin .sub (.var 4) (.int 1)) .nil))) .nil)) (.tup .nil))))
  (.seq (.ifS (.cmp .Eq (.var 3) (.tup .nil)) (.seq (.frz [2] (.ret (.var 2)))
  .nil) .nil)
  (.seq (.ifS (.cmp .Eq (.ix (.ix (.var 3) (.neg (.int 1))) (.int 0)) (.tup .nil)) (.seq (.asg (.nm 5) (.bin .add (.sl (.var 3) .nil (.neg (.int 1))) (.ite (.cmp .Gt (.ix (.ix (.var 3) (.neg (.int 1))) (.int 1)) (.int 1)) (.tup (.cons (.tup (.cons (.ix (.ix (.var 3) (.neg (.int 1))) (.int 0)) (.cons (.bin .sub (.ix (.ix (.var 3) (.neg (.int 1))) (.int 1)) (.int 1)) .nil))) .nil)) (.tup .nil))))
  (.seq (.frz [5] (.ret (.bin .add (.var 2) (.ite (.cmp .Gt (.var 1) (.int 0)) (.tup (.cons (.tup (.cons (.var 5) (.cons (.var 1) .nil))) .nil)) (.tup .nil)))))
  .nil)) .nil)
  (.seq (.ret (.bin .add (.var 2) (.tup (.cons (.tup (.cons (.call 61 (.cons (.var 3) (.cons (.var 1) .nil))) (.cons (.int 1) .nil))) .nil))))
  .nil)))))
def d61 : Df := ⟨"_law_below", 2, ["one", "number", "low", "exponent", "count", "less", "0", "1", "2", "3", "4", "5", "6"], 1000000, b61⟩
def b62 : S := (.seq (.asg (.nm 1) (.bin .add (.int 2) (.call 54 (.cons (.var 0) (.cons (.int 4) .nil)))))
  (.seq (.par [3, 4] (.cons (.call 54 (.cons (.var 0) (.cons (.ite (.cmp .Eq (.var 1) (.int 2)) (.int 16) (.int 40)) .nil))) (.cons (.bin .add (.var 1) (.call 54 (.cons (.var 0) (.cons (.int 3) .nil)))) .nil)))
  (.seq (.frz [1] (.asg (.nm 2) (.call 59 (.cons (.var 3) (.cons (.var 1) .nil)))))
  (.seq (.frz [1] (.ifS (.or (.cmp .NotEq (.call 20 (.cons (.var 3) (.cons (.var 1) .nil))) (.var 2)) (.or (.cmp .NotEq (.call 52 (.cons (.var 3) (.cons (.var 1) .nil))) (.var 2)) (.cmp .NotEq (.call 51 (.cons (.var 2) (.cons (.var 1) .nil))) (.var 3)))) (.seq (.ret (.bl false))
  .nil) .nil))
  (.seq (.frz [1] (.ifS (.or (.cmp .IsNot (.call 53 (.cons (.var 2) (.cons (.var 1) .nil))) (.bl true)) (.cmp .GtE (.call 50 (.cons (.var 2) .nil)) (.var 1))) (.seq (.ret (.bl false))
  .nil) .nil))
  (.seq (.frz [1, 4] (.ret (.and (.cmp .Eq (.call 19 (.cons (.var 3) (.cons (.var 1) (.cons (.var 4) .nil)))) (.call 60 (.cons (.var 2) (.cons (.var 4) .nil)))) (.cmp .Eq (.call 51 (.cons (.var 2) (.cons (.var 4) .nil))) (.call 60 (.cons (.var 2) (.cons (.var 4) .nil)))))))
  .nil))))))
def d62 : Df := ⟨"_law_bases", 1, ["state", "base", "told", "number", "other", "0", "1", "2", "3", "4", "5", "6", "7"], 1000000, b62⟩
def b63 : S := (.seq (.par [3, 4] (.cons (.lst (.cons (.call 54 (.cons (.var 0) (.cons (.int 16) .nil))) .nil)) (.cons (.bin .add (.int 1) (.call 54 (.cons (.var 0) (.cons (.int 5) .nil)))) .nil)))
  (.seq (.forS (.nm 1) (.rng (.cons (.bin .sub (.var 4) (.int 1)) .nil)) (.seq (.ifS (.cmp .Gt (.ix (.var 3) (.neg (.int 1))) (.int 0)) (.seq (.app 3 (.bin .sub (.call 60 (.cons (.call 59 (.cons (.ix (.var 3) (.neg (.int 1))) (.cons (.bin .add (.var 1) (.int 2)) .nil))) (.cons (.bin .add (.var 1) (.int 3)) .nil))) (.int 1)))
  .nil) .nil)
  .nil))
  (.seq (.asg (.nm 2) (.comp [("k", 1)] (.nm 1) (.rng (.cons (.blt .len (.cons (.var 3) .nil)) .nil)) .nil (.call 59 (.cons (.ix (.var 3) (.var 1)) (.cons (.bin .add (.var 1) (.int 2)) .nil)))))
  (.seq (.frz [2, 4] (.ifS (.or (.cmp .NotEq (.call 22 (.cons (.ix (.var 3) (.int 0)) (.cons (.var 4) .nil))) (.var 3)) (.or (.cmp .NotEq (.call 23 (.cons (.ix (.var 3) (.int 0)) (.cons (.var 4) .nil))) (.var 2)) (.cmp .IsNot (.call 24 (.cons (.var 2) .nil)) (.bl true)))) (.seq (.ret (.bl false))
  .nil) .nil))
  (.seq (.ret (.and (.cmp .Eq (.comp [("k", 1)] (.nm 1) (.rng (.cons (.blt .len (.cons (.var 3) .nil)) .nil)) .nil (.call 51 (.cons (.ix (.var 2) (.var 1)) (.cons (.bin .add (.var 1) (.int 2)) .nil)))) (.var 3)) (.cmp .Eq (.blt .len (.cons (.comp [("k", 1)] (.nm 1) (.rng (.cons (.int 1) (.cons (.blt .len (.cons (.var 2) .nil)) .nil))) (.cmp .GtE (.call 56 (.cons (.ix (.var 2) (.var 1)) (.cons (.ix (.var 2) (.bin .sub (.var 1) (.int 1))) .nil))) (.int 0)) (.var 1)) .nil)) (.int 0))))
  .nil)))))
def d63 : Df := ⟨"_law_growing", 1, ["state", "k", "told", "row", "most", "0", "1", "2", "3", "4", "5", "6", "7"], 1000000, b63⟩
def b64 : S := (.seq (.asg (.nm 1) (.lst (.cons (.tup (.cons (.int 2) (.cons (.call 54 (.cons (.var 0) (.cons (.int 2) .nil))) .nil))) (.cons (.tup (.cons (.int 1) (.cons (.call 54 (.cons (.var 0) (.cons (.int 3) .nil))) .nil))) (.cons (.tup (.cons (.int 0) (.cons (.call 54 (.cons (.var 0) (.cons (.int 4) .nil))) .nil))) .nil)))))
  (.seq (.asg (.nm 2) (.blt .tuple (.cons (.comp [("power", 8), ("count", 9)] (.tp [8, 9]) (.var 1) (.cmp .Gt (.var 9) (.int 0)) (.tup (.cons (.call 57 (.cons (.var 8) .nil)) (.cons (.var 9) .nil)))) .nil)))
  (.seq (.asg (.nm 3) (.bin .add (.int 1) (.call 54 (.cons (.var 0) (.cons (.int 3) .nil)))))
  (.seq (.frz [2] (.asg (.nm 4) (.lst (.cons (.var 2) .nil))))
  (.seq (.forS (.nm 5) (.rng (.cons (.int 60) .nil)) (.seq (.ifS (.cmp .NotEq (.ix (.var 4) (.neg (.int 1))) (.tup .nil)) (.seq (.frz [3] (.app 4 (.call 61 (.cons (.ix (.var 4) (.neg (.int 1))) (.cons (.var 3) .nil)))))
  .nil) .nil)
  .nil))
  (.seq (.frz [2, 3, 4] (.ifS (.or (.cmp .NotEq (.call 13 (.cons (.var 2) (.cons (.var 3) (.cons (.bl false) (.cons (.int 60) .nil))))) (.var 4)) (.or (.cmp .NotEq (.ix (.var 4) (.neg (.int 1))) (.tup .nil)) (.or (.cmp .NotEq (.call 14 (.cons (.var 2) (.cons (.var 3) .nil))) (.bin .sub (.blt .len (.cons (.var 4) .nil)) (.int 1))) (.cmp .IsNot (.call 24 (.cons (.var 4) .nil)) (.bl true))))) (.seq (.ret (.bl false))
  .nil) .nil))
  (.seq (.asg (.nm 6) (.blt .len (.cons (.comp [("each", 7)] (.nm 7) (.var 4) (.and (.cmp .NotEq (.var 7) (.tup .nil)) (.cmp .Eq (.ix (.ix (.var 7) (.neg (.int 1))) (.int 0)) (.tup .nil))) (.var 7)) .nil)))
  (.seq (.frz [2, 3] (.ret (.and (.cmp .Eq (.call 33 (.cons (.var 2) (.cons (.var 3) .nil))) (.var 6)) (.and (.cmp .Eq (.call 51 (.cons (.var 2) (.cons (.var 3) .nil))) (.var 6)) (.cmp .Eq (.call 60 (.cons (.var 2) (.cons (.var 3) .nil))) (.var 6))))))
  .nil))))))))
def d64 : Df := ⟨"_law_steps", 1, ["state", "counts", "one", "number", "row", "turn", "nexts", "each", "power", "count", "0", "1", "2"], 1000000, b64⟩
def b65 : S := (.seq (.asg (.nm 1) (.call 57 (.cons (.int 1) .nil)))
  (.seq (.asg (.nm 2) (.lst (.cons (.tup .nil) (.cons (.call 57 (.cons (.int 3) .nil)) (.cons (.tup (.cons (.tup (.cons (.var 1) (.cons (.int 1) .nil))) .nil)) (.cons (.tup (.cons (.tup (.cons (.var 1) (.cons (.int 2) .nil))) (.cons (.tup (.cons (.tup .nil) (.cons (.int 1) .nil))) .nil))) (.cons (.tup (.cons (.tup (.cons (.var 1) (.cons (.int 1) .nil))) (.cons (.tup (.cons (.tup .nil) (.cons (.int 2) .nil))) .nil))) (.cons (.tup (.cons (.tup (.cons (.call 57 (.cons (.int 2) .nil)) (.cons (.int 1) .nil))) .nil)) (.cons (.tup (.cons (.tup (.cons (.call 57 (.cons (.int 2) .nil)) (.cons (.int 1) .nil))) (.cons (.tup (.cons (.tup .nil) (.cons (.int 1) .nil))) .nil))) (.cons (.tup (.cons (.tup (.cons (.call 57 (.cons (.int 2) .nil)) (.cons (.int 1) .nil))) (.cons (.tup (.cons (.var 1) (.cons (.int 1) .nil))) .nil))) .nil))))))))))
  (.seq (.frz [2] (.par [5, 6] (.cons (.call 55 (.cons (.var 0) (.cons (.var 2) .nil))) (.cons (.bin .add (.int 1) (.call 54 (.cons (.var 0) (.cons (.int 2) .nil)))) .nil))))
  (.seq (.frz [6] (.par [7, 8] (.cons (.var 5) (.cons (.var 6) .nil))))
  (.seq (.forS (.nm 3) (.rng (.cons (.int 400) .nil)) (.seq (.ifS (.cmp .NotEq (.var 7) (.tup .nil)) (.seq (.asg (.nm 8) (.bin .add (.var 8) (.ite (.cmp .Eq (.ix (.ix (.var 7) (.neg (.int 1))) (.int 0)) (.tup .nil)) (.int 1) (.int 0))))
  (.seq (.frz [8] (.asg (.nm 7) (.call 61 (.cons (.var 7) (.cons (.var 8) .nil)))))
  .nil)) .nil)
  .nil))
  (.seq (.frz [6] (.ifS (.or (.cmp .NotEq (.var 7) (.tup .nil)) (.or (.cmp .NotEq (.call 28 (.cons (.var 5) (.cons (.var 6) .nil))) (.var 8)) (.cmp .NotEq (.call 25 (.cons (.var 5) (.cons (.var 6) .nil))) (.var 8)))) (.seq (.ret (.bl false))
  .nil) .nil))
  (.seq (.par [9, 10] (.cons (.call 54 (.cons (.var 0) (.cons (.int 3) .nil))) (.cons (.bin .add (.int 1) (.call 54 (.cons (.var 0) (.cons (.int 3) .nil)))) .nil)))
  (.seq (.frz [10] (.ifS (.cmp .NotEq (.call 27 (.cons (.call 57 (.cons (.var 9) .nil)) (.cons (.var 10) .nil))) (.call 32 (.cons (.call 57 (.cons (.var 9) .nil)) (.cons (.var 10) .nil)))) (.seq (.ret (.bl false))
  .nil) .nil))
  (.seq (.par [11, 12] (.cons (.call 55 (.cons (.var 0) (.cons (.lst (.cons (.tup (.cons (.tup (.cons (.var 1) (.cons (.int 1) .nil))) .nil)) (.cons (.call 57 (.cons (.int 2) .nil)) (.cons (.tup (.cons (.tup (.cons (.var 1) (.cons (.int 2) .nil))) .nil)) .nil)))) .nil))) (.cons (.call 55 (.cons (.var 0) (.cons (.lst (.cons (.call 57 (.cons (.int 1) .nil)) (.cons (.call 57 (.cons (.int 2) .nil)) (.cons (.tup (.cons (.tup (.cons (.var 1) (.cons (.int 1) .nil))) .nil)) .nil)))) .nil))) .nil)))
  (.seq (.ifS (.cmp .NotEq (.call 29 (.cons (.var 11) (.cons (.var 12) .nil))) (.or (.and (.cmp .Eq (.var 11) (.call 57 (.cons (.int 2) .nil))) (.cmp .NotEq (.var 12) (.tup (.cons (.tup (.cons (.var 1) (.cons (.int 1) .nil))) .nil)))) (.cmp .NotEq (.var 11) (.call 57 (.cons (.int 2) .nil))))) (.seq (.ret (.bl false))
  .nil) .nil)
  (.seq (.ifS (.not (.call 29 (.cons (.var 11) (.cons (.var 12) .nil)))) (.seq (.ret (.bl true))
  .nil) .nil)
  (.seq (.frz [10] (.asg (.nm 4) (.call 28 (.cons (.call 58 (.cons (.var 11) (.cons (.var 12) .nil))) (.cons (.var 10) .nil)))))
  (.seq (.frz [10] (.ret (.and (.cmp .Eq (.call 31 (.cons (.var 11) (.cons (.var 12) (.cons (.var 10) .nil)))) (.var 4)) (.and (.cmp .Eq (.call 30 (.cons (.var 11) (.cons (.var 12) (.cons (.var 10) .nil)))) (.var 4)) (.cmp .Eq (.call 28 (.cons (.var 11) (.cons (.call 28 (.cons (.var 12) (.cons (.var 10) .nil))) .nil))) (.var 4))))))
  .nil)))))))))))))
def d65 : Df := ⟨"_law_grown", 1, ["state", "w", "small", "turn", "due", "one", "number", "now", "count", "power", "more", "first", "second"], 1000000, b65⟩
def b66 : S := (.seq (.asg (.nm 1) (.call 57 (.cons (.int 1) .nil)))
  (.seq (.par [7, 8] (.cons (.call 55 (.cons (.var 0) (.cons (.lst (.cons (.call 57 (.cons (.int 3) .nil)) (.cons (.tup (.cons (.tup (.cons (.var 1) (.cons (.int 1) .nil))) .nil)) (.cons (.tup (.cons (.tup (.cons (.var 1) (.cons (.int 1) .nil))) (.cons (.tup (.cons (.tup .nil) (.cons (.int 1) .nil))) .nil))) (.cons (.tup (.cons (.tup (.cons (.var 1) (.cons (.int 2) .nil))) .nil)) (.cons (.tup (.cons (.tup (.cons (.tup (.cons (.tup (.cons (.var 1) (.cons (.int 1) .nil))) .nil)) (.cons (.int 1) .nil))) .nil)) .nil)))))) .nil))) (.cons (.bin .add (.int 1) (.call 54 (.cons (.var 0) (.cons (.int 2) .nil)))) .nil)))
  (.seq (.asg (.nm 2) (.call 38 (.cons (.var 7) .nil)))
  (.seq (.ifS (.cmp .NotEq (.call 37 (.cons (.var 2) .nil)) (.var 7)) (.seq (.ret (.bl false))
  .nil) .nil)
  (.seq (.frz [8] (.asg (.nm 3) (.comp [("each", 5)] (.nm 5) (.call 43 (.cons (.var 2) (.cons (.var 8) .nil))) .nil (.call 37 (.cons (.var 5) .nil)))))
  (.seq (.frz [8] (.ifS (.or (.cmp .Eq (.var 3) (.lst .nil)) (.or (.cmp .Gt (.blt .len (.cons (.comp [("each", 5)] (.nm 5) (.var 3) (.cmp .GtE (.call 56 (.cons (.var 5) (.cons (.var 7) .nil))) (.int 0)) (.var 5)) .nil)) (.int 0)) (.cmp .IsNot (.call 44 (.cons (.var 2) (.cons (.call 45 (.cons (.var 2) .nil)) (.cons (.var 8) .nil)))) (.bl true)))) (.seq (.ret (.bl false))
  .nil) .nil))
  (.seq (.asg (.nm 4) (.ix (.var 3) (.int 0)))
  (.seq (.frz [3] (.forS (.nm 5) (.var 3) (.seq (.asg (.nm 4) (.ite (.cmp .Lt (.call 56 (.cons (.var 5) (.cons (.var 4) .nil))) (.int 0)) (.var 5) (.var 4)))
  .nil)))
  (.seq (.frz [8] (.ifS (.or (.cmp .NotEq (.call 49 (.cons (.var 2) (.cons (.var 8) .nil))) (.var 4)) (.cmp .NotIn (.call 37 (.cons (.call 42 (.cons (.var 2) (.cons (.call 45 (.cons (.var 2) .nil)) (.cons (.var 8) .nil)))) .nil)) (.var 3))) (.seq (.ret (.bl false))
  .nil) .nil))
  (.seq (.ifS (.cmp .Eq (.var 7) (.tup (.cons (.tup (.cons (.tup (.cons (.tup (.cons (.var 1) (.cons (.int 1) .nil))) .nil)) (.cons (.int 1) .nil))) .nil))) (.seq (.ret (.bl true))
  .nil) .nil)
  (.seq (.frz [8] (.asg (.nm 6) (.call 48 (.cons (.var 2) (.cons (.call 55 (.cons (.var 0) (.cons (.lst (.cons (.str "first") (.cons (.str "low") (.cons (.str "high") .nil)))) .nil))) (.cons (.var 8) .nil))))))
  (.seq (.ret (.and (.cmp .Eq (.ix (.var 6) (.int 0)) (.var 2)) (.and (.cmp .Eq (.ix (.var 6) (.neg (.int 1))) (.tup .nil)) (.cmp .Is (.call 24 (.cons (.comp [("each", 5)] (.nm 5) (.var 6) .nil (.call 37 (.cons (.var 5) .nil))) .nil)) (.bl true)))))
  .nil))))))))))))
def d66 : Df := ⟨"_law_cuts", 1, ["state", "w", "tree", "rows", "least_told", "each", "told", "one", "many", "0", "1", "2", "3"], 1000000, b66⟩
def tbl : List Df := [d0, d1, d2, d3, d4, d5, d6, d7, d8, d9, d10, d11, d12, d13, d14, d15, d16, d17, d18, d19, d20, d21, d22, d23, d24, d25, d26, d27, d28, d29, d30, d31, d32, d33, d34, d35, d36, d37, d38, d39, d40, d41, d42, d43, d44, d45, d46, d47, d48, d49, d50, d51, d52, d53, d54, d55, d56, d57, d58, d59, d60, d61, d62, d63, d64, d65, d66]
def rk : List Nat := [1, 2, 1, 13, 14, 1, 1, 2, 13, 13, 14, 15, 16, 17, 3, 1, 13, 14, 1, 15, 14, 13, 16, 17, 14, 16, 14, 1, 16, 14, 17, 17, 17, 17, 15, 16, 13, 29, 26, 13, 1, 13, 17, 18, 30, 14, 14, 14, 18, 30, 13, 14, 14, 14, 1, 2, 13, 1, 14, 13, 13, 13, 16, 18, 18, 18, 31]
def rkMost : Nat := 31
def stN : List Str := ["script", "numbers_left", "cell"]
def lawN : List Str := ["script", "state", "turn"]
def lawS : S := (.seq (.forS (.nm 2) (.rng (.cons (.int 3) .nil)) (.seq (.ifS (.or (.not (.call 62 (.cons (.var 1) .nil))) (.or (.not (.call 63 (.cons (.var 1) .nil))) (.or (.not (.call 64 (.cons (.var 1) .nil))) (.or (.not (.call 65 (.cons (.var 1) .nil))) (.not (.call 66 (.cons (.var 1) .nil))))))) (.seq (.ret (.bl false))
  .nil) .nil)
  .nil))
  (.seq (.ret (.bl true))
  .nil))
def tk : Nat := 54
def gv : List Nat := [27]
theorem prog_chk : progB2 fa fn gi tk gv tbl stN lawN lawS = true := by kernel_rfl
end K14

/-! K14G: the rounds of rounds, by hand: an object that counts its calls. -/
namespace K14
open Ev PySem PySem.Spec PyProof.Rows L2
/-! ### what it reckons -/
def iter (g : Nat → Nat → Nat × Nat) : Nat → Nat × Nat → Nat × Nat
  | 0, x => x
  | n + 1, x => g (iter g n x).1 (iter g n x).2
def vF : Nat → Nat → Nat → Nat × Nat
  | 0, m, c => (m + 1, c + 1)
  | q + 1, m, c => iter (vF q) m (m, c + 1)
def vB : Nat → Nat → Nat → Bool
  | 0, m, c => Nat.ble (c + 1) 20000 && Nat.ble m 1000000
  | q + 1, m, c => Nat.ble (c + 1) 20000 && (Nat.ble m 1000000 && (List.range m).all fun i => vB q (iter (vF q) i (m, c + 1)).1 (iter (vF q) i (m, c + 1)).2)
theorem vB_c {q m c : Nat} (h : vB q m c = true) : c + 1 ≤ 20000 ∧ m ≤ 1000000 := by
  cases q with
  | zero =>
    unfold vB at h
    rw [Bool.and_eq_true] at h
    exact ⟨Nat.le_of_ble_eq_true h.1, Nat.le_of_ble_eq_true h.2⟩
  | succ q =>
    unfold vB at h
    rw [Bool.and_eq_true, Bool.and_eq_true] at h
    exact ⟨Nat.le_of_ble_eq_true h.1, Nat.le_of_ble_eq_true h.2.1⟩
theorem vB_i {q m c i : Nat} (h : vB (q + 1) m c = true) (hi : i < m) : vB q (iter (vF q) i (m, c + 1)).1 (iter (vF q) i (m, c + 1)).2 = true := by
  unfold vB at h
  rw [Bool.and_eq_true, Bool.and_eq_true] at h
  exact List.all_eq_true.mp h.2.2 i (List.mem_range.mpr hi)
def dW : Nat → D
  | 0 => .tup []
  | q + 1 => .tup [.tup [.tup [], .int ((q + 1 : Nat) : Int)]]
/-! ### the method's text -/
def valN : List Str := ["self", "one", "number", "low", "found", "turn"]
def e3 : E := .cmp .Eq (.blt .len (.cons (.var 1) .nil)) (.int 0)
def r3 : E := .bin .add (.var 2) (.int 1)
def e4 (isn : Nat) : E := .call isn (.cons (.var 1) .nil)
def par4 (bef : Nat) : E := .cons (.call bef (.cons (.var 1) .nil)) (.cons (.var 2) .nil)
def valB (gi : List (Str × Int)) (fns : List Str) (sc : Scope) (isn bef : Nat) : List Stmt → Bool
  | [.AugAssign (.Attribute (.Name x1 p1) f1 p2) .Add e1 p3,
     .If (.BoolOp .Or [.Compare (.Attribute (.Name x2 p4) f2 p5) [.Gt] [.Name g1 p6] p7, .Compare n1 [.Gt] [.Name g2 p8] p9] p10) _ [] p11,
     .If c3 [.Return (some v3) p12] [] p13,
     .If c4 [.Assign [.Tuple [.Name y1 p14, .Name y2 p15] k1 p16] (.Tuple [a1, a2] k2 p17) p18, .For (.Name y3 p19) (.Call (.Name rg p20) [a3] [] p21) [.Assign [.Name y4 p22] (.Call (.Attribute (.Name x3 p23) m1 p24) [a4, a5] [] p25) p26] [] p27, .Return (some v4) p28] [] p29,
     _] => decide (f1 = ("_calls" : Str) ∧ f2 = ("_calls" : Str) ∧ m1 = ("value" : Str) ∧ x1 = ("self" : Str) ∧ x2 = ("self" : Str) ∧ x3 = ("self" : Str) ∧ g1 = ("MOST_CALLS" : Str) ∧ g2 = ("MOST_VALUE" : Str) ∧ rg = ("range" : Str)) &&
      (visB sc "self" && (chk [] [] valN (.int 1) sc false e1 && (gloB sc g1 && (gloB sc g2 && (chk [] [] valN (.var 2) sc false n1 && (chk gi fns valN e3 sc true c3 && (chk gi fns valN r3 sc false v3 && (chk gi fns valN (e4 isn) sc true c4 &&
      ((decide (y1 = ("low" : Str) ∧ y2 = ("found" : Str) ∧ y3 = ("turn" : Str) ∧ y4 = ("found" : Str) ∧ y1 ≠ y2) && (isK sc y1 .local && (isK sc y2 .local && (isK sc y3 .local && ((p15.line == p14.line) && ((p24.endLine == p25.line) && (!([a1, a2].all (foldedForSure 8)) && (!([a1, a2].all (constantsAlone 8)) && chkEs gi fns valN (par4 bef) sc [a1, a2])))))))) &&
      (isK sc rg .globalImplicit && (chkEs [] [] valN (.cons (.var 2) .nil) sc [a3] && (chkEs [] [] valN (.cons (.var 3) (.cons (.var 4) .nil)) sc [a4, a5] && chk [] [] valN (.var 4) sc false v4))))))))))))
  | _ => false
def rGt : R2 := rI0 fun i j => .bl (decide (j < i))
def tVal (K : PySem.W.Frag) (C : Addr) (call : Nat → List D → DS → Ev.R D) (sp : Sp) (isn bef : Nat) : TS :=
  tSeq (sFldAug K (tVar 0) (tC (.int 1)) rAdd "_calls")
  (tSeq (tIfS (tOr (tTest (tOp rGt (tFld K (tVar 0) "_calls") (tC (.int 20000)))) (tTest (tOp rGt (tVar 2) (tC (.int 1000000))))) tNever tNext)
  (tSeq (tIfS (tT call e3) (tRet (tE call false r3)) tNext)
  (tSeq (tIfS (tT call (e4 isn)) (tSeq (tPar 3 4 (tNs call (par4 bef))) (tSeq (tFor (iRng1 (tCons (tVar 2) tNil)) (gName 5) (tAsg (tMeth C "value" sp [] E0 (tVar 0) (tCons (tVar 3) (tCons (tVar 4) tNil))) (gName 4))) (tRet (tVar 4)))) tNext)
  tNever)))
theorem meth_eq {x name : Str} {p0 apos pos : Pos} {a b : Expr} {env : Env} (ha : plainX a = true) (hb : plainX b = true) (hl : (apos.endLine == pos.line) = true) :
    eval (.Call (.Attribute (.Name x p0) name apos) [a, b] [] pos) env = (do
      let ov ← eval (.Name x p0) env
      standAt apos.atName
      let (f, first) ← holding [ov] (getMethod ov name (do return (← importBound (.Name x p0) env).getD true))
      callWith pos f first (backTo pos (starEach [a, b] env)) (backToKw pos (keywordEach [] env))) := by
  have hform : methodCallForm ([a, b].length + ([] : List Keyword).length) (backTo pos (starEach [a, b] env)) (backToKw pos (keywordEach [] env)) = true := by
    have h2 : ((backTo pos (starEach [a, b] env)).all fun z => !z.1) = true := by
      have h3 := back_ok (pos := pos) (starEach [a, b] env) (by rw [star_ok ha, star_ok hb, star_nil]; rfl)
      rw [← List.not_any_eq_all_not, h3]
      rfl
    unfold methodCallForm
    rw [show ((backTo pos (starEach [a, b] env)).all fun x => !x.1) = true from h2]
    rfl
  show (do
      let ov ← eval (.Name x p0) env
      standAt apos.atName
      methodCall (.Name x p0) name apos pos env ov ([a, b].length + ([] : List Keyword).length) (backTo pos (starEach [a, b] env)) (backToKw pos (keywordEach [] env))) = _
  unfold methodCall
  rw [hform]
  simp only [calleeOf, methodCallPos, if_true, Bool.not_true, Bool.false_or, hl, pure_bind]
theorem val_walk {call : Nat → List D → DS → Ev.R D} {gi : List (Str × Int)} {fns : List Str} {k kv : Nat} {X : Cx} (O : Ok call gi fns k X) (O0 : Ok call [] [] k X) (hf : ∀ x, X.fn x = true) (hN : X.N = valN) (hkd : X.env.scope.kind = .function) {isn bef : Nat} {body : List Stmt}
    (h : valB gi fns X.env.scope isn bef body = true) {C fV : Addr} {fdV : FuncData} {psV : List Str} {sp : Sp} (cl : Cls X.K C) (mV : Meth X.K C "value" fV) (GV : FnOk X.prog X.w X.K X.mg X.base CX0 kv fV fdV psV sp) (hr : Room kv X.A) (bV : Binds X.K fdV psV [])
    {t1 t2 : Tok} (m1 : X.mg "MOST_CALLS" = some (.int 20000 t1)) (m2 : X.mg "MOST_VALUE" = some (.int 1000000 t2)) : PSs X body (tVal X.K C call sp isn bef) := by
  unfold valB at h
  split at h
  · rw [← hN] at h
    simp only [Bool.and_eq_true, decide_eq_true_eq, Bool.not_eq_true', beq_iff_eq] at h
    obtain ⟨⟨rfl, rfl, rfl, rfl, rfl, rfl, rfl, rfl, rfl⟩, hv, c1, g1, g2, c2, c3, c4, c5, ⟨⟨rfl, rfl, rfl, rfl, hne⟩, l1, l2, l3, hl, hap0, hf1, hc1, c6⟩, hrg, c7, c8, c9⟩ := h
    have hap := beq_iff_eq.mpr hap0
    have nd : X.N.Nodup := O.nd
    have i0 : X.N[0]? = some ("self" : Str) := by rw [hN]; rfl
    have i3 : X.N[3]? = some ("low" : Str) := by rw [hN]; rfl
    have i4 : X.N[4]? = some ("found" : Str) := by rw [hN]; rfl
    have i5 : X.N[5]? = some ("turn" : Str) := by rw [hN]; rfl
    have vs := vis_ok hv
    have hself : ∀ p, PE X (.Name "self" p) (tVar 0) := fun p => pe_var i0 vs.1
    have rd1 := fun {e : E} {pe : Expr} (h : chk [] [] X.N e X.env.scope false pe = true) => (rd_ok O0 e).1 _ _ (chk_ok _ _ _ _ _ _ _ h)
    have G1 : ∀ p, PE X (.Name "MOST_CALLS" p) (tC (.int 20000)) := fun p => pe_glob (v := .int 20000) (glo_ok g1).1 m1 ⟨t1, rfl⟩
    have G2 : ∀ p, PE X (.Name "MOST_VALUE" p) (tC (.int 1000000)) := fun p => pe_glob (v := .int 1000000) (glo_ok g2).1 m2 ⟨t2, rfl⟩
    have C6 := chkEs_ok _ _ _ _ _ _ c6
    have C7 := chkEs_ok _ _ _ _ _ _ c7
    have C8 := chkEs_ok _ _ _ _ _ _ c8
    have L3 := isK_ok l1
    have L4 := isK_ok l2
    have L5 := isK_ok l3
    refine pss_cons (ps_fldaug (hself _) (rd1 c1) in_add) (pss_cons (ps_if (PW.pt (pw_or (pt_cmpR op_gt (pe_fld (hself _) rfl) (G1 _) (nomark _)) (pw_or1 (pt_cmpR op_gt (rd1 c2) (G2 _) (nomark _))))) pss_never pss_nil) (pss_cons ?_ (pss_cons ?_ pss_never)))
    · exact ps_if ((snd _ X O).pt (chk_ok _ _ _ _ _ _ _ c3)) (pss_one (ps_ret ((snd _ X O).pe (chk_ok _ _ _ _ _ _ _ c4) false))) pss_nil
    · refine ps_if ((snd _ X O).pt (chk_ok _ _ _ _ _ _ _ c5)) (pss_cons ?_ (pss_cons ?_ (pss_one (ps_ret (rd1 c9))))) pss_nil
      · have hcc := C6
        cases hcc with
        | cons pa ha c =>
          cases c with
          | cons pb hb c =>
            exact ps_par O.calm nd i3 i4 (by decide) L3 L4 (sndNs O _ _ C6) (sw2 hkd L3 L4 (by rw [hl]; exact beq_self_eq_true _) hne pa pb hf1 hc1) rfl
      · have hs7 := C7
        have hs8 := C8
        cases hs7 with
        | cons d1 d2 d3 =>
          cases hs8 with
          | cons f1 f2 f3 =>
            exact ps_for O.pass O.calm (pi_range1 (isK_ok hrg) O.rg ((rd_ok O0 _).2 _ C7) (star1 d1)) (pg_name nd i5 (.inl L5) (.inl (hf _)))
              (pss_one (ps_set nd i4 (.inl L4) (pe_meth (hself _) cl mV GV hr bV .nil pass0 ((rd_ok O0 _).2 _ C8) (star_ok f1) (back_ok _ (any_ok f3)) (meth_eq f1 (by cases f3 with | cons g1 _ _ => exact g1) hap)) rfl (.inl (hf _)))) (fun _ => rfl)
  · cases h
/-! ### the method's promise -/
def spV (C : Addr) (q : Nat) : Sp := fun vs H Q _ => ∃ (a0 c0 : Addr) (F G : Hp) (t : DS) (p dx : Addr) (v : V) (m c : Nat), vs = [V.ref p, v, V.int (m : Int)] ∧ Sub F H ∧ Sub G H ∧ (∀ b o, F b = some o → G b = none) ∧ StOk a0 c0 F G H t ∧
  F p = none ∧ G p = none ∧ H p = some (.ins C dx [("_calls", V.int (c : Int))]) ∧ Rep a0 G (dW q) v ∧ vB q m c = true ∧
  ∀ H' : Hp, Sub F H' → Sub G H' → StOk a0 c0 F G H' t → H' p = some (.ins C dx [("_calls", V.int ((vF q m c).2 : Int))]) → Q (V.int ((vF q m c).1 : Int)) H'
def spR (C : Addr) : Nat → Sp
  | 0 => fun _ _ _ _ => False
  | q + 1 => spV C q
theorem put1 {u w : V} : putF "_calls" u [(("_calls" : Str), w)] = [(("_calls" : Str), u)] := by
  show (if ("_calls" : Str) = ("_calls" : Str) then [(("_calls" : Str), u)] else _) = _
  rw [if_pos rfl]
theorem look1 {w : V} : List.lookup ("_calls" : Str) [(("_calls" : Str), w)] = some w := by
  rw [List.lookup_cons, beq_self_eq_true]
theorem look2 {w : V} : List.lookup ("value" : Str) [(("_calls" : Str), w)] = none := by
  have : (("value" : Str) == ("_calls" : Str)) = false := by decide +kernel
  rw [List.lookup_cons, this]
  rfl
theorem ifn {c : Bool} {A B : Prop} (h : ¬ c = true) (b : B) : if c = true then A else B := by rw [if_neg h]; exact b
theorem ift {c : Bool} {A B : Prop} (h : c = true) (a : A) : if c = true then A else B := by rw [if_pos h]; exact a
theorem val_plain {K : PySem.W.Frag} {C : Addr} {call : Nat → List D → DS → Ev.R D} {isn bef q : Nat} (cl : Cls K C) (na : NoAttr K C "_calls") (hisn : ∀ t, call isn [dW q] t = some (.bl (decide (q ≠ 0)), t))
    (hbef : ∀ q', q = q' + 1 → ∀ t, call bef [dW q] t = some (dW q', t)) {vs : List V} {H : Hp} {Q : VK} {E : XK} (hs : spV C q vs H Q E) :
    tVal K C call (spR C q) isn bef { nx := fun _ H' => Q .non H', rt := Q } (L2.start valN vs) H := by
  obtain ⟨a0, c0, F, G, t, p, dx, v, m, c, rfl, fh, gh, fg, st, fp, gp, hp, rv, hb, post⟩ := hs
  obtain ⟨hc, hm⟩ := vB_c hb
  have na0 : p ≠ a0 := by
    rintro rfl
    have := hp.symm.trans st.h0
    cases this
  have nc0 : p ≠ c0 := by
    rintro rfl
    have := hp.symm.trans st.hc
    cases this
  have hσ : L2.start valN [V.ref p, v, V.int (m : Int)] = [some (V.ref p), some v, some (V.int (m : Int)), none, none, none] := rfl
  rw [hσ]
  refine ⟨V.ref p, rfl, p, C, dx, _, V.int (c : Int), rfl, hp, cl, na, look1, (c : Int), 1, rfl, rfl, dx, _, hp, (by show 1 < 1000; decide), ?_⟩
  rw [put1]
  have nbp : ∀ {F : Hp} {b : Addr} {o : HO}, F p = none → F b = some o → b ≠ p := fun h1 h2 q => by rw [q, h1] at h2; cases h2
  refine ⟨V.ref p, rfl, p, C, dx, _, _, rfl, upd_same, cl, na, look1, ((c : Int) + 1), 20000, rfl, rfl, _, rfl, ?_⟩
  refine ifn (by rw [decide_eq_true_eq]; omega) ?_
  refine ⟨V.int (m : Int), rfl, (m : Int), 1000000, rfl, rfl, _, rfl, ?_⟩
  refine ifn (by rw [decide_eq_true_eq]; omega) ?_
  -- the frame: the object as it stands, never touched until the rounds
  have f1 : Sub (upd F p (.ins C dx [("_calls", V.int ((c : Int) + 1))])) (upd H p (.ins C dx [("_calls", V.int ((c : Int) + 1))])) := fun b o e => by
    by_cases hbp : b = p
    · subst hbp; rw [upd_same] at e ⊢; exact e
    · rw [upd_ne hbp] at e ⊢; exact fh b o e
  have g1 : Sub G (upd H p (.ins C dx [("_calls", V.int ((c : Int) + 1))])) := fun b o e => by rw [upd_ne (nbp gp e)]; exact gh b o e
  have st1 : StOk a0 c0 (upd F p (.ins C dx [("_calls", V.int ((c : Int) + 1))])) G (upd H p (.ins C dx [("_calls", V.int ((c : Int) + 1))])) t :=
    ⟨by rw [upd_ne na0.symm]; exact st.h0, by rw [upd_ne nc0.symm]; exact st.hc, by rw [upd_ne na0.symm]; exact st.f0, by rw [upd_ne nc0.symm]; exact st.fc, st.g0, st.gc⟩
  have R1 : RE a0 c0 (upd F p (.ins C dx [("_calls", V.int ((c : Int) + 1))])) G [none, some (.val (dW q)), some (.val (.int (m : Int))), none, none, none]
      [some (V.ref p), some v, some (V.int (m : Int)), none, none, none] (upd H p (.ins C dx [("_calls", V.int ((c : Int) + 1))])) t := by
    refine ⟨f1, g1, fun b o e => ?_, st1, fun i d e => ?_, fun i es e => ?_, fun i j ds es a e1 => ?_, rfl⟩
    · by_cases hbp : b = p
      · subst hbp; exact gp
      · rw [upd_ne hbp] at e; exact fg b o e
    · match i with
      | 0 => cases e
      | 1 => cases e; exact ⟨v, rfl, rv⟩
      | 2 => cases e; exact ⟨_, rfl, rfl⟩
      | 3 => cases e
      | 4 => cases e
      | 5 => cases e
      | i + 6 => cases e
    · match i with
      | 0 => cases e
      | 1 => cases e
      | 2 => cases e
      | 3 => cases e
      | 4 => cases e
      | 5 => cases e
      | i + 6 => cases e
    · match i with
      | 0 => cases e1
      | 1 => cases e1
      | 2 => cases e1
      | 3 => cases e1
      | 4 => cases e1
      | 5 => cases e1
      | i + 6 => cases e1
  have subF : ∀ {H' : Hp}, Sub (upd F p (.ins C dx [("_calls", V.int ((c : Int) + 1))])) H' → Sub F H' := fun h b o e => h b o (by rw [upd_ne (nbp fp e)]; exact e)
  have stF : ∀ {G' H' : Hp} {F' : Hp}, StOk a0 c0 F' G' H' t → StOk a0 c0 F G H' t := fun h => ⟨h.h0, h.hc, st.f0, st.fc, st.g0, st.gc⟩
  cases q with
  | zero =>
    refine ⟨a0, c0, _, G, _, t, true, t, R1, rfl, fun H2 G2 s2 k2 R2 => ?_⟩
    refine ift rfl ?_
    refine ⟨a0, c0, _, G2, _, t, .int ((m : Int) + 1), t, R2, rfl, fun w H3 G3 s3 k3 R3 r3 => ?_⟩
    obtain rfl : w = V.int ((m : Int) + 1) := r3
    refine post H3 (subF R3.fh) ((s2.trans s3).trans R3.gh) (stF R3.st) ?_
    exact R3.fh p _ upd_same
  | succ q =>
    refine ⟨a0, c0, _, G, _, t, false, t, R1, rfl, fun H2 G2 s2 k2 R2 => ?_⟩
    refine ifn Bool.false_ne_true ?_
    refine ⟨a0, c0, _, G2, _, t, true, t, R2, ?_, fun H3 G3 s3 k3 R3 => ?_⟩
    · have := hisn t
      simp only [e4, tst, evE, evEs, List.getElem?_cons_succ, List.getElem?_cons_zero, this]
      rfl
    refine ift rfl ?_
    refine ⟨a0, c0, _, G3, _, t, [.val (dW q), .val (.int (m : Int))], t, R3, ?_, fun vs H4 G4 s4 k4 R4 ok => ?_⟩
    · have := hbef q rfl t
      simp only [par4, evNs, Ev.E.isNew, evE, evEs, List.getElem?_cons_succ, List.getElem?_cons_zero, this, mkSl]
    obtain ⟨v1, w1, rfl, r1, v2, w2, rfl, r2, ok3⟩ := ok
    obtain rfl : w2 = [] := ok3
    obtain rfl : v2 = V.int (m : Int) := r2
    have g4p : G4 p = none := R4.fg p _ upd_same
    have h4p : H4 p = some (.ins C dx [("_calls", V.int ((c : Int) + 1))]) := R4.fh p _ upd_same
    have s14 : Sub G G4 := s2.trans (s3.trans s4)
    refine ⟨v1, V.int (m : Int), rfl, V.int (m : Int), rfl, (m : Int), rfl, by omega, by omega, ?_⟩
    refine for_range (lo := 0) (n := m) (fun i σ H' => ∃ w5, σ = [some (V.ref p), some v, some (V.int (m : Int)), some v1, some (V.int ((iter (vF q) i (m, c + 1)).1 : Int)), w5] ∧ Sub F H' ∧ Sub G4 H' ∧ StOk a0 c0 F G4 H' t ∧
      H' p = some (.ins C dx [("_calls", V.int ((iter (vF q) i (m, c + 1)).2 : Int))])) ?_ ?_ ?_
    · exact ⟨none, rfl, subF R4.fh, R4.gh, ⟨R4.st.h0, R4.st.hc, st.f0, st.fc, R4.st.g0, R4.st.gc⟩, h4p⟩
    · rintro i σ H' hi ⟨w5, rfl, q1, q2, q3, q4⟩
      refine ⟨V.ref p, rfl, p, dx, _, rfl, q4, look2, v1, rfl, _, rfl, ?_⟩
      refine ⟨a0, c0, F, G4, t, p, dx, v1, _, _, rfl, q1, q2, fun b o e => R4.fg b o (by rw [upd_ne (nbp fp e)]; exact e), q3, fp, g4p, q4, r1, vB_i hb hi, fun H5 z1 z2 z3 z4 => ?_⟩
      exact ⟨_, rfl, z1, z2, z3, z4⟩
    · rintro σ H' ⟨w5, rfl, q1, q2, q3, q4⟩
      exact ⟨_, rfl, post H' q1 (s14.trans q2) (stF q3) q4⟩
end K14

/-! K14S: the def by_rounds keeps its promise. -/
namespace K14
open Ev PySem PySem.Spec PyProof.Rows L2
theorem fC_ge {n k : Nat} (h : n ≤ k) : PCok (fC tk tbl rk n) (run tk tbl k) := fun f ds d e => by
  unfold fC at e
  rw [boxed_eq] at e
  exact fG_ok tk tbl rk n n k h f ds d e
theorem isn_ok : ∀ q, q ≤ 2 → ∀ t, run tk tbl 4 5 [dW q] t = some (.bl (decide (q ≠ 0)), t)
  | 0, _ => fC_ge (Nat.le_refl 4) _ _ _ (by kernel_rfl)
  | 1, _ => fC_ge (Nat.le_refl 4) _ _ _ (by kernel_rfl)
  | 2, _ => fC_ge (Nat.le_refl 4) _ _ _ (by kernel_rfl)
theorem bef_ok : ∀ q, q + 1 ≤ 2 → ∀ t, run tk tbl 4 7 [dW (q + 1)] t = some (dW q, t)
  | 0, _ => fC_ge (Nat.le_refl 4) _ _ _ (by kernel_rfl)
  | 1, _ => fC_ge (Nat.le_refl 4) _ _ _ (by kernel_rfl)
section
variable {P : Program} {w : World} {K : PySem.W.Frag} {mg : Str → Option Value} {base : Heap} {h : Heap}
def at2 (j : Nat) : He.DefD := fn.getD j ⟨(("" : Str), none), "", "", ⟨[], [], none, [], [], none, []⟩, [], default, [], []⟩
theorem eV_at : fn[tbl.length + 3]? = some (at2 (tbl.length + 3)) := by kernel_rfl
theorem eI_at : fn[tbl.length + 2]? = some (at2 (tbl.length + 2)) := by kernel_rfl
theorem eR_at : fn[27]? = some (at2 27) := by kernel_rfl
theorem eV_chk : (scopeB valN ["self", "one", "number"] (at2 (tbl.length + 3)).scope && (parB (at2 (tbl.length + 3)).params ["self", "one", "number"] && (valB gi (tbl.map Df.key) (at2 (tbl.length + 3)).scope 5 7 (at2 (tbl.length + 3)).body && decide ((at2 (tbl.length + 3)).at_ = (("Rounds" : Str), some ("value" : Str)))))) = true := by kernel_rfl
theorem eV_d : (at2 (tbl.length + 3)).dfl = [] ∧ (at2 (tbl.length + 3)).kwd = [] := ⟨by kernel_rfl, by kernel_rfl⟩
theorem eI_d : (at2 (tbl.length + 2)).dfl = [] ∧ (at2 (tbl.length + 2)).kwd = [] := ⟨by kernel_rfl, by kernel_rfl⟩
theorem eR_d : (at2 27).dfl = [] ∧ (at2 27).kwd = [] := ⟨by kernel_rfl, by kernel_rfl⟩
/-- what is known of the world of names -/
structure Kn (K : PySem.W.Frag) (mg : Str → Option Value) : Prop where
  gi : ∀ (j : Nat) (x : Str) (i : Int), gi[j]? = some (x, i) → ∃ t, mg x = some (.int i t)
  bn : ∀ f : B, mg f.nm = none
  rg : mg "range" = none
  cs : mg "Rounds" = some (.ref (He.ga K "Rounds"))
  cl : Cls K (He.ga K "Rounds")
  na : NoAttr K (He.ga K "Rounds") "_calls"
  me : Meth K (He.ga K "Rounds") "value" (He.ma K (He.ga K "Rounds") "value")
  mkr : Mk K (He.ga K "Rounds") (He.ma K (He.ga K "Rounds") "__init__")
  sd : He.SaysD fa fn K
theorem fnD {K : PySem.W.Frag} (c : He.SaysD fa fn K) {i : Nat} {e : He.DefD} (he : fn[i]? = some e) (hd : e.dfl = [] ∧ e.kwd = []) : ∃ fd, FunD K e.name e.qual e.params e.body e.scope [] [] (He.fAd K e.at_) fd := by
  obtain ⟨fd, F⟩ := c.def_ i he
  have e1 : e.dvs K = [] := by unfold He.DefD.dvs; rw [hd.1]; rfl
  have e2 : e.kws K = [] := by unfold He.DefD.kws; rw [hd.2]; rfl
  rw [e1, e2] at F
  exact ⟨fd, F⟩
theorem fn_never {k : Nat} {f : Addr} {fd : FuncData} {ps : List Str} : FnOk P w K mg base CX0 k f fd ps (fun _ _ _ _ => False) := ⟨fun vs H Q E h => h.elim, fun A outer s H args us vs Q E _ _ _ _ h => h.elim⟩
theorem val_ok (T : Kn K mg) (L4 : Lvl P w K mg base tk tbl 4) : ∃ fd, Binds K fd ["self", "one", "number"] [] ∧ ∀ q, q ≤ 2 → FnOk P w K mg base CX0 (q + 5) (He.ma K (He.ga K "Rounds") "value") fd ["self", "one", "number"] (spV (He.ga K "Rounds") q) := by
  obtain ⟨fd, F⟩ := fnD T.sd eV_at eV_d
  have hchk := eV_chk
  simp only [Bool.and_eq_true, decide_eq_true_eq] at hchk
  obtain ⟨hsc, hpar, hval, hat⟩ := hchk
  rw [hat] at F
  have bV : Binds K fd ["self", "one", "number"] [] := FunD.bindsN F fun _ _ _ _ _ _ us hl => par_ok hpar hl
  have S := scope_ok hsc
  obtain ⟨t1, m1⟩ := T.gi (gi.findIdx fun p => p.1 == ("MOST_CALLS" : Str)) "MOST_CALLS" 20000 (by kernel_rfl)
  obtain ⟨t2, m2⟩ := T.gi (gi.findIdx fun p => p.1 == ("MOST_VALUE" : Str)) "MOST_VALUE" 1000000 (by kernel_rfl)
  have step : ∀ q, q ≤ 2 → ∀ {sp : Sp}, sp = spR (He.ga K "Rounds") q → FnOk P w K mg base CX0 (q + 4) (He.ma K (He.ga K "Rounds") "value") fd ["self", "one", "number"] sp → FnOk P w K mg base CX0 (q + 5) (He.ma K (He.ga K "Rounds") "value") fd ["self", "one", "number"] (spV (He.ga K "Rounds") q) := by
    intro q hq sp esp GV
    subst esp
    refine F.ok (CX := CX0) S (fun vs H Q E hs => ?_) (fun cdv A outer s H vs Q E hr hs => ?_)
    · obtain ⟨_, _, _, _, _, _, _, _, _, _, rfl, _⟩ := hs
      rfl
    · have hfn : ∀ (f : Nat) (x : Str), (tbl.map Df.key)[f]? = some x → ∃ a fd ps, mg x = some (.ref a) ∧ PySem.W.keepIn K (.ref a) = true ∧ Binds K fd ps [] ∧ FnOk P w K mg base CX0 4 a fd ps (spF (run tk tbl 4) f) := by
        intro f x hx
        rw [List.getElem?_map] at hx
        obtain ⟨d, hd', rfl⟩ := Option.map_eq_some_iff.mp hx
        exact L4 f d hd'
      have hr4 := hr.mono (show 4 ≤ q + 4 by omega)
      have O := cx_ok (P := P) (w := w) (K := K) (base := base) (cdv := cdv) (f := He.fAd K ("Rounds", some "value")) (outer := outer) (H := H) (E := E) (gi := gi) (call := run tk tbl 4) S.nd hr4 T.gi T.bn T.rg hfn
      have O0 := cx_ok (P := P) (w := w) (K := K) (base := base) (cdv := cdv) (f := He.fAd K ("Rounds", some "value")) (outer := outer) (H := H) (E := E) (gi := []) (fns := []) (call := run tk tbl 4) S.nd hr4 (by intro j x i h; cases h) T.bn T.rg (by intro j x h; cases h)
      refine ⟨_, PSs.nox (val_walk O O0 (fun _ => rfl) rfl S.kind hval T.cl T.me GV hr bV m1 m2), ?_⟩
      exact val_plain T.cl T.na (isn_ok q hq) (fun q' e t => by subst e; exact bef_ok q' hq t) hs
  refine ⟨fd, bV, fun q hq => ?_⟩
  induction q with
  | zero => exact step 0 hq (sp := fun _ _ _ _ => False) rfl fn_never
  | succ q ih => exact step (q + 1) hq (sp := spV (He.ga K "Rounds") q) rfl (ih (by omega))
end
end K14

/-! K14I: what the data of by_rounds tell, read backwards. -/
namespace K14
open Ev PySem PySem.Spec PyProof.Rows L2
def towD : Nat → D
  | 0 => .tup []
  | n + 1 => .tup [.tup [towD n, .int 1]]
theorem tow_none : ∀ n, n < 10 → ∀ t, run tk tbl n 3 [towD 9, towD 9] t = none
  | 0, _ => fun t => by kernel_rfl
  | 1, _ => fun t => by kernel_rfl
  | 2, _ => fun t => by kernel_rfl
  | 3, _ => fun t => by kernel_rfl
  | 4, _ => fun t => by kernel_rfl
  | 5, _ => fun t => by kernel_rfl
  | 6, _ => fun t => by kernel_rfl
  | 7, _ => fun t => by kernel_rfl
  | 8, _ => fun t => by kernel_rfl
  | 9, _ => fun t => by kernel_rfl
  | n + 10, h => absurd h (by omega)
theorem tow_some {n : Nat} (h : 10 ≤ n) : ∀ t, run tk tbl n 3 [towD 9, towD 9] t = some (.int 0, t) := fC_ge h _ _ _ (by kernel_rfl)
def rest : S := match b27 with
  | .seq _ r => r
  | s => s
def towE : E := match b27 with
  | .seq (.asg _ (.call _ es)) _ => es
  | _ => .nil
def env2 (x0 x1 : D) : EnvD := [some (.val x0), some (.val x1), some (.val (.int 0)), none, none, none, none, none, none, none, none, none, none]
def Told (x0 x1 d : D) : Prop := ∃ q m : Nat, q ≤ 2 ∧ 1 ≤ m ∧ m ≤ 3 ∧ x0 = dW q ∧ x1 = .int (m : Int) ∧ d = .int ((vF q m 0).1 : Int)
variable {c : Nat → List D → DS → Ev.R D}
theorem chn_le {i j k : Int} {x : E} {b : Bool} {ρ : EnvD} {t : DS} (hx : evE c x true ρ t = some (.int k, t)) : evE c (.chn .LtE .LtE (.int i) x (.int j)) b ρ t = some (.bl (decide (i ≤ k) && decide (k ≤ j)), t) := by
  simp only [evE, hx, cmpF]
  cases decide (i ≤ k) <;> rfl
theorem chn_lt {i j k : Int} {x : E} {b : Bool} {ρ : EnvD} {t : DS} (hx : evE c x true ρ t = some (.int k, t)) : evE c (.chn .Lt .Lt (.int i) x (.int j)) b ρ t = some (.bl (decide (i < k) && decide (k < j)), t) := by
  simp only [evE, hx, cmpF]
  cases decide (i < k) <;> rfl
theorem range_no {x0 : D} {m : Int} {r : Ev.R D} {t : DS} (h : ¬ (decide (1 ≤ m) && decide (m ≤ 3)) = true) (e : endF (Ev.exec c 1000000 rest (env2 x0 (.int m)) t) = r) : (none : Ev.R D) = r := by
  rw [← e]
  have hc : evE c (.chn .LtE .LtE (.int 1) (.var 1) (.int 3)) true (env2 x0 (.int m)) t = some (.bl false, t) := by
    rw [chn_le (k := m) rfl, Bool.eq_false_iff.mpr h]
  show none = endF (Ev.exec c 1000000 (.seq (.ifS (.chn .LtE .LtE (.int 1) (.var 1) (.int 3)) _ (.seq .bad .nil)) _) (env2 x0 (.int m)) t)
  rw [Ev.exec, Ev.exec, hc]
  rfl
def last3 : S := .seq (.ifS (.chn .Lt .Lt (.int 0) (.ix (.ix (.var 0) (.int 0)) (.int 1)) (.int 2)) (.seq (.ret (.bin .mul (.int 2) (.var 1))) .nil) .nil) (.seq (.ifS (.chn .Lt .Lt (.int 1) (.ix (.ix (.var 0) (.int 0)) (.int 1)) (.int 3)) (.seq (.ret (.bin .mul (.var 1) (.bin .shl (.int 1) (.var 1)))) .nil) .nil) (.seq .bad .nil))
def env3 (x0 x1 : D) : EnvD := [some (.val x0), some (.val x1), some (.val (.int 0)), some (.val x0), some (.val (.tup [.tup [], .int 0])), some (.val (.tup [])), none, none, none, none, none, none, none]
theorem last_none {ρ : EnvD} {k : Int} {t : DS} (k3 : ¬ ((0 : Int) < k ∧ k < 2)) (k4 : ¬ ((1 : Int) < k ∧ k < 3)) (hx : evE c (.ix (.ix (.var 0) (.int 0)) (.int 1)) true ρ t = some (.int k, t)) : Ev.exec c 1000000 last3 ρ t = none := by
  have h1 : evE c (.chn .Lt .Lt (.int 0) (.ix (.ix (.var 0) (.int 0)) (.int 1)) (.int 2)) true ρ t = some (.bl false, t) := by
    have z : (decide ((0 : Int) < k) && decide (k < 2)) = false := Bool.eq_false_iff.mpr fun q => k3 (by simpa using q)
    rw [chn_lt hx, z]
  have h2 : evE c (.chn .Lt .Lt (.int 1) (.ix (.ix (.var 0) (.int 0)) (.int 1)) (.int 3)) true ρ t = some (.bl false, t) := by
    have z : (decide ((1 : Int) < k) && decide (k < 3)) = false := Bool.eq_false_iff.mpr fun q => k4 (by simpa using q)
    rw [chn_lt hx, z]
  unfold last3
  rw [Ev.exec, Ev.exec, h1]
  show Ev.exec c 1000000 (.seq _ (.seq .bad .nil)) ρ t = none
  rw [Ev.exec, Ev.exec, h2]
  rfl
theorem last_no {k m : Int} {r : Ev.R D} {t : DS} (k3 : ¬ ((0 : Int) < k ∧ k < 2)) (k4 : ¬ ((1 : Int) < k ∧ k < 3)) (hm : m = 1 ∨ m = 2 ∨ m = 3) (e : endF (Ev.exec c 1000000 rest (env2 (.tup [.tup [.tup [], .int k]]) (.int m)) t) = r) : (none : Ev.R D) = r := by
  rw [← e]
  have h0 : ∀ ρ', ρ' = [some (Sl.val (.tup [.tup [.tup [], .int k]])), some (.val (.int m)), some (.val (.int 0)), some (.val (.tup [.tup [.tup [], .int k]])), some (.val (.tup [.tup [], .int k])), some (.val (.tup [])), none, none, none, none, none, none, none] → Ev.exec c 1000000 last3 ρ' t = none := fun ρ' h => by
    subst h
    exact last_none k3 k4 rfl
  have key : endF (Ev.exec c 1000000 rest (env2 (.tup [.tup [.tup [], .int k]]) (.int m)) t) = endF (match Ev.exec c 1000000 last3 [some (Sl.val (.tup [.tup [.tup [], .int k]])), some (.val (.int m)), some (.val (.int 0)), some (.val (.tup [.tup [.tup [], .int k]])), some (.val (.tup [.tup [], .int k])), some (.val (.tup [])), none, none, none, none, none, none, none] t with
      | some (.nx ρ, t) => Ev.exec c 1000000 (.seq .bad .nil) ρ t
      | r => r) := by
    rcases hm with rfl | rfl | rfl <;> rfl
  rw [key, h0 _ rfl]
  rfl
theorem rest_inv {x0 x1 d : D} {t t' : DS} (e : endF (Ev.exec c 1000000 rest (env2 x0 x1) t) = some (d, t')) : t' = t ∧ Told x0 x1 d := by
  have no : ∀ {P : Prop}, (none : Ev.R D) = some (d, t') → P := fun h => nomatch h
  cases x1 with
  | int m =>
    by_cases h1 : (1 : Int) ≤ m
    · by_cases h2 : m ≤ 3
      · have hm : m = 1 ∨ m = 2 ∨ m = 3 := by omega
        cases x0 with
        | tup xs =>
          match xs with
          | [] =>
            rcases hm with rfl | rfl | rfl
            · have h : some (D.int 2, t) = some (d, t') := e
              cases h; exact ⟨rfl, 0, 1, by decide, by decide, by decide, rfl, rfl, rfl⟩
            · have h : some (D.int 3, t) = some (d, t') := e
              cases h; exact ⟨rfl, 0, 2, by decide, by decide, by decide, rfl, rfl, rfl⟩
            · have h : some (D.int 4, t) = some (d, t') := e
              cases h; exact ⟨rfl, 0, 3, by decide, by decide, by decide, rfl, rfl, rfl⟩
          | x :: y :: r => rcases hm with rfl | rfl | rfl <;> exact no e
          | [y] =>
            cases y with
            | tup ys =>
              match ys with
              | [] => rcases hm with rfl | rfl | rfl <;> exact no e
              | [_] => rcases hm with rfl | rfl | rfl <;> exact no e
              | _ :: _ :: _ :: _ => rcases hm with rfl | rfl | rfl <;> exact no e
              | [z, w] =>
                cases z with
                | tup zs =>
                  match zs with
                  | _ :: _ => rcases hm with rfl | rfl | rfl <;> exact no e
                  | [] =>
                    cases w with
                    | int k =>
                      by_cases k1 : k = 1
                      · subst k1
                        rcases hm with rfl | rfl | rfl
                        · have h : some (D.int 2, t) = some (d, t') := e
                          cases h; exact ⟨rfl, 1, 1, by decide, by decide, by decide, rfl, rfl, rfl⟩
                        · have h : some (D.int 4, t) = some (d, t') := e
                          cases h; exact ⟨rfl, 1, 2, by decide, by decide, by decide, rfl, rfl, rfl⟩
                        · have h : some (D.int 6, t) = some (d, t') := e
                          cases h; exact ⟨rfl, 1, 3, by decide, by decide, by decide, rfl, rfl, rfl⟩
                      · by_cases k2 : k = 2
                        · subst k2
                          rcases hm with rfl | rfl | rfl
                          · have h : some (D.int 2, t) = some (d, t') := e
                            cases h; exact ⟨rfl, 2, 1, by decide, by decide, by decide, rfl, rfl, rfl⟩
                          · have h : some (D.int 8, t) = some (d, t') := e
                            cases h; exact ⟨rfl, 2, 2, by decide, by decide, by decide, rfl, rfl, rfl⟩
                          · have h : some (D.int 24, t) = some (d, t') := e
                            cases h; exact ⟨rfl, 2, 3, by decide, by decide, by decide, rfl, rfl, rfl⟩
                        · have k3 : ¬ ((0 : Int) < k ∧ k < 2) := by omega
                          have k4 : ¬ ((1 : Int) < k ∧ k < 3) := by omega
                          exact no (last_no k3 k4 hm e)
                    | _ => rcases hm with rfl | rfl | rfl <;> exact no e
                | lst zs =>
                  match zs with
                  | [] => rcases hm with rfl | rfl | rfl <;> exact no e
                  | _ :: _ => rcases hm with rfl | rfl | rfl <;> exact no e
                | _ => rcases hm with rfl | rfl | rfl <;> exact no e
            | lst ys =>
              match ys with
              | [] => rcases hm with rfl | rfl | rfl <;> exact no e
              | [_] => rcases hm with rfl | rfl | rfl <;> exact no e
              | [_, _] => rcases hm with rfl | rfl | rfl <;> exact no e
              | _ :: _ :: _ :: _ => rcases hm with rfl | rfl | rfl <;> exact no e
            | _ => rcases hm with rfl | rfl | rfl <;> exact no e
        | lst xs =>
          match xs with
          | [] => rcases hm with rfl | rfl | rfl <;> exact no e
          | [_] => rcases hm with rfl | rfl | rfl <;> exact no e
          | _ :: _ :: _ => rcases hm with rfl | rfl | rfl <;> exact no e
        | _ => rcases hm with rfl | rfl | rfl <;> exact no e
      · exact no (range_no (by rw [Bool.and_eq_true, decide_eq_true_eq, decide_eq_true_eq]; omega) e)
    · exact no (range_no (by rw [Bool.and_eq_true, decide_eq_true_eq, decide_eq_true_eq]; omega) e)
  | _ => exact no e
theorem rounds_inv {n : Nat} {args : List D} {d : D} {t t' : DS} (e : run tk tbl (n + 1) 27 args t = some (d, t')) : 10 ≤ n ∧ t' = t ∧ ∃ x0 x1, args = [x0, x1] ∧ Told x0 x1 d := by
  have no : ∀ {P : Prop}, (none : Ev.R D) = some (d, t') → P := fun h => nomatch h
  have e1 : (match args.length == 2 with
      | true => endF (Ev.exec (run tk tbl n) 1000000 b27 (startE 13 args) t)
      | false => none) = some (d, t') := e
  match args, e1 with
  | [], e1 => exact no e1
  | [_], e1 => exact no e1
  | _ :: _ :: _ :: _, e1 =>
    rename_i a b c r
    have : ((a :: b :: c :: r).length == 2) = false := by simp
    rw [this] at e1
    exact no e1
  | [x0, x1], e1 =>
    have e2 : endF (Ev.exec (run tk tbl n) 1000000 (.seq (.asg (.nm 2) (.call 3 towE)) rest) (startE 13 [x0, x1]) t) = some (d, t') := e1
    have hx : evEs (run tk tbl n) towE false (startE 13 [x0, x1]) t = some ([towD 9, towD 9], t) := rfl
    by_cases hn : 10 ≤ n
    · have hr : evE (run tk tbl n) (.call 3 towE) (E.call 3 towE).isNew (startE 13 [x0, x1]) t = some (.int 0, t) := by
        rw [evE, hx]
        exact tow_some hn t
      rw [Ev.exec, Ev.exec, hr] at e2
      obtain ⟨h1, h2⟩ := rest_inv (c := run tk tbl n) (x0 := x0) (x1 := x1) e2
      exact ⟨hn, h1, x0, x1, rfl, h2⟩
    · have hr : evE (run tk tbl n) (.call 3 towE) (E.call 3 towE).isNew (startE 13 [x0, x1]) t = none := by
        rw [evE, hx]
        exact tow_none n (by omega) t
      rw [Ev.exec, Ev.exec, hr] at e2
      exact no e2
end K14

/-! K14R: by_rounds: an object made, its method called. -/
namespace K14
open Ev PySem PySem.Spec PyProof.Rows L2
def iniB (sc : Scope) : List Stmt → Bool
  | [.Assign [.Attribute (.Name x1 p1) f1 p2] (.Constant (.int z) k p3) p4] => decide (f1 = ("_calls" : Str) ∧ x1 = ("self" : Str) ∧ z = 0) && visB sc "self"
  | _ => false
def spI (C : Addr) : Sp := fun vs H Q _ => ∃ p dx, vs = [V.ref p] ∧ H p = some (.ins C dx []) ∧ Q .non (upd H p (.ins C dx [(("_calls" : Str), V.int 0)]))
theorem eI_chk : (scopeB ["self"] ["self"] (at2 (tbl.length + 2)).scope && (parB (at2 (tbl.length + 2)).params ["self"] && (iniB (at2 (tbl.length + 2)).scope (at2 (tbl.length + 2)).body && decide ((at2 (tbl.length + 2)).at_ = (("Rounds" : Str), some ("__init__" : Str)))))) = true := by kernel_rfl
def rndB (sc : Scope) : List Stmt → Bool
  | [.Return (some (.Call (.Attribute (.Call (.Name cn p1) [] [] p2) m p3) [a1, a2] [] p4)) p5] => decide (cn = ("Rounds" : Str) ∧ m = ("value" : Str)) && (gloB sc "Rounds" && (chkEs [] [] ["one", "number"] (.cons (.var 0) (.cons (.var 1) .nil)) sc [a1, a2] && (p3.endLine == p4.line)))
  | _ => false
theorem eR_chk : (scopeB ["one", "number"] ["one", "number"] (at2 27).scope && (parB (at2 27).params ["one", "number"] && (rndB (at2 27).scope (at2 27).body && decide ((at2 27).at_ = (("by_rounds" : Str), none))))) = true := by kernel_rfl
section
variable {P : Program} {w : World} {K : PySem.W.Frag} {mg : Str → Option Value} {base : Heap} {h : Heap}
theorem ini_ok (T : Kn K mg) {k : Nat} : ∃ fd, Binds K fd ["self"] [] ∧ FnOk P w K mg base CX0 (k + 1) (He.ma K (He.ga K "Rounds") "__init__") fd ["self"] (spI (He.ga K "Rounds")) := by
  obtain ⟨fd, F⟩ := fnD T.sd eI_at eI_d
  have hchk := eI_chk
  simp only [Bool.and_eq_true, decide_eq_true_eq] at hchk
  obtain ⟨hsc, hpar, hb, hat⟩ := hchk
  rw [hat] at F
  have S := scope_ok hsc
  refine ⟨fd, FunD.bindsN F fun _ _ _ _ _ _ us hl => par_ok hpar hl, F.ok (CX := CX0) S (fun vs H Q E hs => ?_) (fun cdv A outer s H vs Q E hr hs => ?_)⟩
  · obtain ⟨_, _, rfl, _⟩ := hs
    rfl
  · have hN : (cxOf CX0 P w K mg base ["self"] (at2 (tbl.length + 2)).qual (at2 (tbl.length + 2)).scope (He.fAd K (("Rounds" : Str), some ("__init__" : Str))) cdv A outer s H E).nox.N[0]? = some ("self" : Str) := rfl
    unfold iniB at hb
    split at hb
    · rename_i hbody
      simp only [Bool.and_eq_true, decide_eq_true_eq] at hb
      obtain ⟨⟨rfl, rfl, rfl⟩, hv⟩ := hb
      have vs' := vis_ok hv
      rw [hbody]
      refine ⟨_, PSs.nox (pss_one (ps_fld (pe_var (i := 0) hN vs'.1) pe_int rfl)), ?_⟩
      obtain ⟨p, dx, rfl, hp, q⟩ := hs
      exact ⟨V.ref p, rfl, p, _, dx, _, rfl, hp, T.cl, T.na, (by show 0 < 1000; decide), q⟩
    · cases hb
theorem meth_eq2 {cn name : Str} {p1 p2 apos pos : Pos} {a b : Expr} {env : Env} (hcn : (cn != "super") = true) (ha : plainX a = true) (hb : plainX b = true) (hl : (apos.endLine == pos.line) = true) :
    eval (.Call (.Attribute (.Call (.Name cn p1) [] [] p2) name apos) [a, b] [] pos) env = (do
      let ov ← eval (.Call (.Name cn p1) [] [] p2) env
      standAt apos.atName
      let (f, first) ← holding [ov] (getMethod ov name (do return (← importBound (.Call (.Name cn p1) [] [] p2) env).getD true))
      callWith pos f first (backTo pos (starEach [a, b] env)) (backToKw pos (keywordEach [] env))) := by
  have hform : methodCallForm ([a, b].length + ([] : List Keyword).length) (backTo pos (starEach [a, b] env)) (backToKw pos (keywordEach [] env)) = true := by
    have h2 : ((backTo pos (starEach [a, b] env)).all fun z => !z.1) = true := by
      have h3 := back_ok (pos := pos) (starEach [a, b] env) (by rw [star_ok ha, star_ok hb, star_nil]; rfl)
      rw [← List.not_any_eq_all_not, h3]
      rfl
    unfold methodCallForm
    rw [show ((backTo pos (starEach [a, b] env)).all fun x => !x.1) = true from h2]
    rfl
  have hbase : attributeBase (.Call (.Name cn p1) [] [] p2) name env (eval (.Call (.Name cn p1) [] [] p2) env) = eval (.Call (.Name cn p1) [] [] p2) env := by
    unfold attributeBase
    simp only [hcn, Bool.true_or, if_true]
  show (do
      let ov ← attributeBase (.Call (.Name cn p1) [] [] p2) name env (eval (.Call (.Name cn p1) [] [] p2) env)
      standAt apos.atName
      methodCall (.Call (.Name cn p1) [] [] p2) name apos pos env ov ([a, b].length + ([] : List Keyword).length) (backTo pos (starEach [a, b] env)) (backToKw pos (keywordEach [] env))) = _
  rw [hbase]
  unfold methodCall
  rw [hform]
  simp only [calleeOf, methodCallPos, if_true, Bool.not_true, Bool.false_or, hl, pure_bind]
def spU (C : Addr) : Sp := fun vs H Q E => ∃ q, q ≤ 2 ∧ spV C q vs H Q E
theorem vB0 : ∀ q m : Nat, q ≤ 2 → 1 ≤ m → m ≤ 3 → vB q m 0 = true
  | 0, 1, _, _, _ => by decide +kernel
  | 0, 2, _, _, _ => by decide +kernel
  | 0, 3, _, _, _ => by decide +kernel
  | 1, 1, _, _, _ => by decide +kernel
  | 1, 2, _, _, _ => by decide +kernel
  | 1, 3, _, _, _ => by decide +kernel
  | 2, 1, _, _, _ => by decide +kernel
  | 2, 2, _, _, _ => by decide +kernel
  | 2, 3, _, _, _ => by decide +kernel
  | _, 0, _, h, _ => absurd h (by decide)
  | _, m + 4, _, _, h => absurd h (by omega)
  | q + 3, _, h, _, _ => absurd h (by omega)
theorem rounds_stp (T : Kn K mg) (hm : mg "by_rounds" = some (.ref (He.ga K "by_rounds"))) : Stp P w K mg base tk tbl 27 d27 := by
  obtain ⟨fd, F⟩ := fnD T.sd eR_at eR_d
  have hchk := eR_chk
  simp only [Bool.and_eq_true, decide_eq_true_eq] at hchk
  obtain ⟨hsc, hpar, hb, hat⟩ := hchk
  rw [hat] at F
  have S := scope_ok hsc
  refine ⟨_, fd, ["one", "number"], hm, F.kp, FunD.bindsN F fun _ _ _ _ _ _ us hl => par_ok hpar hl, fun n hl => ?_⟩
  by_cases hn : 10 ≤ n
  · obtain ⟨fdV, bV, GV⟩ := val_ok (P := P) (w := w) (base := base) T (hl 4 (by omega))
    have GU : FnOk P w K mg base CX0 7 (He.ma K (He.ga K "Rounds") "value") fdV ["self", "one", "number"] (spU (He.ga K "Rounds")) :=
      ⟨fun vs H Q E ⟨q, hq, hs⟩ => (GV q hq).len vs H Q E hs, fun A outer s H args us vs Q E hr he hb hv ⟨q, hq, hs⟩ => (GV q hq).run A outer s H args us vs Q E (hr.mono (by omega)) he hb hv hs⟩
    obtain ⟨fdI, bI, GI⟩ := ini_ok (P := P) (w := w) (base := base) (k := 0) T
    refine F.ok (CX := CX0) S (fun vs H Q E hs => ?_) (fun cdv A outer s H vs Q E hr hs => ?_)
    · obtain ⟨a0, c0, F, G, args, t, d, t', _, _, _, _, rp, e, _⟩ := hs
      obtain ⟨_, _, x0, x1, rfl, _⟩ := rounds_inv e
      rw [rp.len]
      rfl
    · unfold rndB at hb
      split at hb
      · rename_i cn p1 p2 m p3 a1 a2 p4 p5 hbody
        simp only [Bool.and_eq_true, decide_eq_true_eq] at hb
        obtain ⟨⟨rfl, rfl⟩, hg, hes, hap⟩ := hb
        have C8 := chkEs_ok _ _ _ _ _ _ hes
        have O0 := cx_ok (P := P) (w := w) (K := K) (base := base) (cdv := cdv) (f := He.fAd K (("by_rounds" : Str), none)) (outer := outer) (H := H) (E := E) (gi := []) (fns := []) (call := run tk tbl n) S.nd hr (by intro j x i h; cases h) T.bn T.rg (by intro j x h; cases h)
        have hs8 := C8
        rw [hbody]
        cases hs8 with
        | cons f1 f2 f3 =>
          refine ⟨_, PSs.nox (pss_one (ps_ret (pe_meth (pe_make0 T.mkr GI (hr.mono (by omega)) (glo_ok hg).1 T.cs bI .nil pass0) T.cl T.me GU (hr.mono (by omega)) bV .nil pass0 ((rd_ok O0 _).2 _ C8) (star_ok f1) (back_ok _ (any_ok f3))
            (meth_eq2 (by decide +kernel) f1 (by cases f3 with | cons g1 _ _ => exact g1) hap)))), ?_⟩
          obtain ⟨a0, c0, F', G, args, t, d, t', h1, h2, h3, h4, rp, e, post⟩ := hs
          obtain ⟨_, rfl, x0, x1, rfl, q, m, hq, m1, m3, rfl, rfl, rfl⟩ := rounds_inv e
          obtain ⟨v0, r0, rfl, g0, rr⟩ := rp.inv_cons
          obtain ⟨v1, r1, rfl, g1, rr2⟩ := rr.inv_cons
          obtain rfl : r1 = [] := rr2
          obtain rfl : v1 = V.int (m : Int) := g1
          have hσ : L2.start ["one", "number"] [v0, V.int (m : Int)] = [some v0, some (V.int (m : Int))] := rfl
          rw [hσ]
          intro x dx nx ndx nex
          refine ⟨x, dx, rfl, upd_same, rfl, ?_⟩
          refine ⟨x, dx, _, rfl, upd_same, look2, v0, rfl, V.int (m : Int), rfl, q, hq, ?_⟩
          have old : ∀ {G : Hp}, Ev.Sub G H → Ev.Sub G (upd (upd (upd H dx (.own x)) x (.ins (He.ga K "Rounds") dx [])) x (.ins (He.ga K "Rounds") dx [(("_calls" : Str), V.int 0)])) := fun s b o e => by
            have hb := s b o e
            rw [upd_ne (ne_of_none hb nx), upd_ne (ne_of_none hb nx), upd_ne (ne_of_none hb ndx)]
            exact hb
          have non : ∀ {G : Hp}, Ev.Sub G H → G x = none := fun {G} s => by
            cases e : G x with
            | none => rfl
            | some o => have := s x o e; rw [nx] at this; cases this
          have k0 : Ev.Sub H (upd (upd (upd H dx (.own x)) x (.ins (He.ga K "Rounds") dx [])) x (.ins (He.ga K "Rounds") dx [(("_calls" : Str), V.int 0)])) := old (fun _ _ e => e)
          refine ⟨a0, c0, F', G, t', x, dx, v0, m, 0, rfl, old h1, old h2, h3, ⟨k0 _ _ h4.h0, k0 _ _ h4.hc, h4.f0, h4.fc, h4.g0, h4.gc⟩, non h1, non h2, upd_same, g0, vB0 q m hq m1 m3, fun H' f g st _ => ?_⟩
          exact post _ H' G Ev.Sub.refl f g h3 st rfl
      · cases hb
  · refine FnOk.imp fn_never fun vs H Q E hs => ?_
    obtain ⟨a0, c0, F, G, args, t, d, t', _, _, _, _, rp, e, _⟩ := hs
    exact hn (rounds_inv e).1
end
end K14

/-! K14W: the plain law. -/
namespace K14
open Ev PySem
noncomputable section
def LNN : Nat := 40
def call : Nat → List D → DS → Ev.R D := run tk tbl LNN
def only (o : Option (List D)) : Bool := match o with
  | some x => x.all fun d => memD d [.bl true]
  | none => false
theorem only_ok {f : Nat} (h : only (aC tk tbl rk LNN f [.st]) = true) {t : DS} (g : t.cells ≠ []) : ∃ t', call f [.st] t = some (.bl true, t') ∧ t'.cells ≠ [] := by
  unfold only at h
  split at h
  · rename_i x e
    obtain ⟨d, hd, t', h1, h2⟩ := aC_ok tk tbl rk LNN _ _ _ e t g
    have := memD_ok (List.all_eq_true.mp h d hd)
    obtain rfl := List.mem_singleton.mp this
    exact ⟨t', h1, h2⟩
  · cases h
theorem c62 : only (aC tk tbl rk LNN 62 [.st]) = true := by kernel_rfl
theorem c63 : only (aC tk tbl rk LNN 63 [.st]) = true := by kernel_rfl
theorem c64 : only (aC tk tbl rk LNN 64 [.st]) = true := by kernel_rfl
theorem c65 : only (aC tk tbl rk LNN 65 [.st]) = true := by kernel_rfl
theorem c66 : only (aC tk tbl rk LNN 66 [.st]) = true := by kernel_rfl
def Shape (ρ : EnvD) : Prop := ∃ a, ρ = [none, some (.val .st), a]
def body : S := match lawS with
  | .seq (.forS _ _ b) _ => b
  | _ => .nil
theorem turn_ok {W : Nat} {d : D} {ρ : EnvD} (hs : Shape ρ) {t : DS} (g : t.cells ≠ []) : ∃ ρ' t', forF (fun ρ t => Ev.exec call W body ρ t) (.nm 2) d ρ t = some (.nx ρ', t') ∧ Shape ρ' ∧ t'.cells ≠ [] := by
  obtain ⟨a, rfl⟩ := hs
  obtain ⟨t1, e1, g1⟩ := only_ok c62 g
  obtain ⟨t2, e2, g2⟩ := only_ok c63 g1
  obtain ⟨t3, e3, g3⟩ := only_ok c64 g2
  obtain ⟨t4, e4, g4⟩ := only_ok c65 g3
  obtain ⟨t5, e5, g5⟩ := only_ok c66 g4
  refine ⟨[none, some (.val .st), some (.val d)], t5, ?_, ⟨_, rfl⟩, g5⟩
  show Ev.exec call W (.seq (.ifS (.or (.not (.call 62 (.cons (.var 1) .nil))) (.or (.not (.call 63 (.cons (.var 1) .nil))) (.or (.not (.call 64 (.cons (.var 1) .nil))) (.or (.not (.call 65 (.cons (.var 1) .nil))) (.not (.call 66 (.cons (.var 1) .nil))))))) (.seq (.ret (.bl false)) .nil) .nil) .nil) [none, some (.val .st), some (.val d)] t = _
  simp only [Ev.exec, tst, evE, evEs, List.getElem?_cons_succ, List.getElem?_cons_zero, e1, e2, e3, e4, e5, truth, Bool.not_true]
theorem turns_ok {W : Nat} : ∀ (ds : List D) {ρ : EnvD} (hs : Shape ρ) {t : DS} (g : t.cells ≠ []), ∃ ρ' t', forL (forF (fun ρ t => Ev.exec call W body ρ t) (.nm 2)) ds ρ t = some (.nx ρ', t')
  | [], ρ, hs, t, g => ⟨ρ, t, rfl⟩
  | d :: ds, ρ, hs, t, g => by
    obtain ⟨ρ', t', h1, h2, h3⟩ := turn_ok (W := W) (d := d) hs g
    obtain ⟨ρ2, t2, h4⟩ := turns_ok (W := W) ds h2 h3
    refine ⟨ρ2, t2, ?_⟩
    unfold forL
    rw [h1]
    exact h4
theorem law_true (W : Nat) (t : DS) (h0 : t.n = 0) (hc : t.cells ≠ []) : ∃ t', Ev.exec call W lawS (lawE (lawN.length - 2)) t = some (.rt (.bl true), t') := by
  obtain ⟨ρ', t', h⟩ := turns_ok (W := W) (rngL 0 3) (ρ := lawE 1) ⟨none, rfl⟩ hc
  refine ⟨t', ?_⟩
  show Ev.exec call W (.seq (.forS (.nm 2) (.rng (.cons (.int 3) .nil)) body) (.seq (.ret (.bl true)) .nil)) (lawE 1) t = _
  have e : Ev.exec call W (.forS (.nm 2) (.rng (.cons (.int 3) .nil)) body) (lawE 1) t = some (.nx ρ', t') := by
    rw [Ev.exec]
    simp only [evE, evEs, rngF, show in62 3 = true from rfl, if_true, seqOf]
    exact h
  rw [Ev.exec, e]
  simp only [Ev.exec, evE]
end
end K14

namespace K14
open Ev PySem
theorem f_glo : fa[87]? = some (.glo "Rounds") := by kernel_rfl
theorem f_cls : fa[88]? = some (.cls "Rounds") := by kernel_rfl
theorem f_noat : fa[89]? = some (.noat "Rounds" "_calls") := by kernel_rfl
theorem f_meth : fa[90]? = some (.meth "Rounds" "value") := by kernel_rfl
theorem f_mkr : fa[91]? = some (.mkr "Rounds") := by kernel_rfl
theorem f_rnd : fa[27]? = some (.glo "by_rounds") := by kernel_rfl
theorem f_rng : fa[86]? = some (.free "range") := by kernel_rfl
theorem range_in : He.Fa.free "range" ∈ fa := List.mem_of_getElem? f_rng
theorem free_in : ∀ b : B, He.Fa.free b.nm ∈ fa
  | .len => List.mem_of_getElem? (i := 76) (by kernel_rfl)
  | .sum => List.mem_of_getElem? (i := 77) (by kernel_rfl)
  | .max => List.mem_of_getElem? (i := 78) (by kernel_rfl)
  | .min => List.mem_of_getElem? (i := 79) (by kernel_rfl)
  | .abs => List.mem_of_getElem? (i := 80) (by kernel_rfl)
  | .int => List.mem_of_getElem? (i := 81) (by kernel_rfl)
  | .tuple => List.mem_of_getElem? (i := 82) (by kernel_rfl)
  | .list => List.mem_of_getElem? (i := 83) (by kernel_rfl)
  | .all => List.mem_of_getElem? (i := 84) (by kernel_rfl)
  | .any => List.mem_of_getElem? (i := 85) (by kernel_rfl)
theorem gi_in : ∀ {x : Str × Int}, x ∈ gi → He.Fa.int x.1 x.2 ∈ fa := by
  have h : gi.all (fun p => fa.any fun | .int x i => decide (x = p.1 ∧ i = p.2) | _ => false) = true := by kernel_rfl
  intro p hp
  obtain ⟨g, hg, e⟩ := List.any_eq_true.mp (List.all_eq_true.mp h p hp)
  split at e
  · rw [decide_eq_true_eq] at e
    obtain ⟨rfl, rfl⟩ := e
    exact hg
  · cases e
end K14
open PySem PySem.W PySem.Calls PyProof.Rows
theorem PySem.Challenge.cw_beyondall_k14_whole_rows_down_by_many_ro_holds : PySem.Challenge.rw_beyondall_k14_whole_rows_down_by_many_ro.Holds := by
  w_on; o_law
  refine HandSHeadRun.head_any (r := OpenLaw.row PySem.Challenge.rw_beyondall_k14_whole_rows_down_by_many_ro) (q := view (OpenLaw.row PySem.Challenge.rw_beyondall_k14_whole_rows_down_by_many_ro).prog [91]) (H := K14.hk) (ob := K14.ob) (M := 4000) (loose := K14.loose) (d := HandSHeadRun.topDef (OpenLaw.row PySem.Challenge.rw_beyondall_k14_whole_rows_down_by_many_ro).prog 91) (kwd := []) K14.ob_eq
    (by kernel_rfl) (fun s => by kernel_rfl) K14.head_run (by kernel_rfl) (by kernel_rfl) (by kernel_rfl) (by rfl) (by first | assumption | decide +kernel) (by decide +kernel) ⟨rfl, rfl, rfl, rfl, rfl, by decide +kernel⟩ ?hw ?hc
  case hw => w_witness2
  case hc =>
    refine L2.walk_ofE (l := PySem.Challenge.rw_beyondall_k14_whole_rows_down_by_many_ro) (n := 63) (k := K14.LNN + 1) (x := "script") (CX := L2.CX0) rfl (by decide) (by kernel_rfl) ⟨rfl, by decide, by decide⟩ ?F (fun _ _ _ _ z => z)
    intro w mg fa h Y G hmg0
    obtain ⟨K, KX, c⟩ := Y
    have hmg : mg ("law" : PySem.Str) = some (.ref fa) := by
      have e : (HandSHeadRun.topDef (OpenLaw.row PySem.Challenge.rw_beyondall_k14_whole_rows_down_by_many_ro).prog 91).name = ("law" : PySem.Str) := by kernel_rfl
      rw [← e]
      exact hmg0
    have T : K14.Kn K mg := ⟨fun j x i hj => He.int_ok KX G (Ev.fact_of c (K14.gi_in (List.mem_of_getElem? hj))), fun b => He.free_ok KX G (Ev.fact_of c (K14.free_in b)), He.free_ok KX G (Ev.fact_of c K14.range_in),
      He.glo_ok KX G (Ev.fact_of c (List.mem_of_getElem? K14.f_glo)), He.cls_ok (Ev.fact_of c (List.mem_of_getElem? K14.f_cls)), He.noat_ok (Ev.fact_of c (List.mem_of_getElem? K14.f_noat)), He.meth_ok (Ev.fact_of c (List.mem_of_getElem? K14.f_meth)), He.mkr_ok (Ev.fact_of c (List.mem_of_getElem? K14.f_mkr)), c⟩
    obtain ⟨fd, hb, hF⟩ := Ev.prog_ok2 (P := (PySem.Challenge.rw_beyondall_k14_whole_rows_down_by_many_ro).prog) (w := w) (n := K14.LNN) (W := 1000000) K14.prog_chk KX G hmg c (by decide) (fun base _ _ i d hi hd => by
      obtain rfl : i = 27 := List.mem_singleton.mp hi
      have : d = K14.d27 := (Option.some.inj hd).symm
      subst this
      exact K14.rounds_stp T (He.glo_ok KX G (Ev.fact_of c (List.mem_of_getElem? K14.f_rnd)))) (fun t h0 hc => K14.law_true 1000000 t h0 hc) (x := "script") rfl
    exact ⟨K, fd, Ev.spLaw K, KX, hb, fun H a ns hl _ hS => ⟨a, ns, rfl, hS, Nat.le_trans hl (by decide), fun _ => rfl⟩, hF⟩

