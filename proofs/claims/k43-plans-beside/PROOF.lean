import PyProof.Rows.All
import HandS.Walk
import HandS.Deep
import HandS.Flow
import HandS.Zip
import HandS.Style
import HandS.TupMul
import HandS.TupAny
import HandS.Dict
import KE.KRevSl
import Wide.All
import OpenK.AllK
import Wide.FinOn
import HandS.ForExc
import HandS.IsInst
import HandS.Sort
import HandS.SortRule
import HandS.SortInts
import HandS.TupSets
import HandS.DictTup
import HandS.SetFor
import HandS.SetKeys
import HandS.Keys
import HandS.Text
import HandS.Conv
import HandS.Wide
import HandS.Defaults
import HandS.NoneIn
import HandS.Rev
import HandS.RevTup
import HandS.Head0
import HandS.Head1
import HandS.Head2
import HandS.HeadEnd
import HandS.HeadHook1
import HandS.HeadHook2
import PySem.Challenge.RW_holdterms_k43_whole_plans_beside_one_ano
set_option Elab.async false
set_option linter.all false
set_option maxRecDepth 100000
set_option maxHeartbeats 2000000
namespace HT
open PySem PySem.Spec PyProof.Rows L2
variable {prog : Program} {w : World} {A : Around} {E : Value → Shared → Prop} {s : Shared}
theorem adjust_rev (n : Nat) : Builtin.Slice.sliceAdjust none none (-1) (n : Int) = ((n : Int) - 1, -1) := by
  unfold Builtin.Slice.sliceAdjust
  simp
theorem places_rev (n : Nat) : Builtin.Slice.slicePlaces ((n : Int) - 1) (-1) (-1) = n := by
  unfold Builtin.Slice.slicePlaces
  simp
  omega
theorem fm_congr {α β : Type} {f g : α → Option β} : ∀ {l : List α}, (∀ x ∈ l, f x = g x) → l.filterMap f = l.filterMap g
  | [], _ => rfl
  | x :: l, h => by rw [List.filterMap_cons, List.filterMap_cons, h x List.mem_cons_self, fm_congr fun y hy => h y (List.mem_cons_of_mem _ hy)]
theorem pick_rev (xs : Array Value) : ((List.range xs.size).filterMap fun (m : Nat) => xs[((xs.size : Int) - 1 + (m : Int) * (-1)).toNat]?).toArray = xs.toList.reverse.toArray := by
  have e : ∀ m ∈ List.range xs.size, xs[((xs.size : Int) - 1 + (m : Int) * (-1)).toNat]? = xs[xs.size - 1 - m]? := fun m hm => by
    have := List.mem_range.mp hm
    rw [show ((xs.size : Int) - 1 + (m : Int) * (-1)).toNat = xs.size - 1 - m by omega]
  rw [fm_congr e]
  have := PySem.W.krv_range xs.size
  rw [show (List.range xs.size).filterMap (fun m => xs[xs.size - 1 - m]?) = ((List.range xs.size).map (fun k => xs.size - 1 - k)).filterMap (xs[·]?) by rw [List.filterMap_map]; rfl, this, List.filterMap_reverse, PySem.W.krv_all]
theorem sliceApplied_rev {sl : Addr} {vl vu vs : Value} {n : Nat} {Q : Int × Int × Nat → Shared → Prop} (hs : s.heap.IsSliceOf sl vl vu vs) (pl : IsPart vl none) (pu : IsPart vu none) (ps : IsPart vs (some (-1)))
    (h : Q ((n : Int) - 1, -1, n) s) : wpAny (model prog w) A (Builtin.Slice.sliceApplied (.ref sl) (pure (n : Int))) Q E s := by
  obtain ⟨os, hos, hcs, hds⟩ := id hs
  unfold Builtin.Slice.sliceApplied Builtin.Slice.sliceFields
  refine wpAny_bind (wpAny_bind (wpAny_field hos hds (x := vl) rfl (wpAny_bind (wpAny_field hos hds (x := vu) rfl (wpAny_bind (wpAny_field hos hds (x := vs) rfl (wpAny_pure ?_)))))))
  refine wpAny_bind (slicePart_ ps ?_)
  show wpAny _ _ (if ((-1 : Int) == 0) = true then _ else _) _ _ s
  rw [if_neg (by decide)]
  refine wpAny_bind (slicePart_ pl (wpAny_bind (slicePart_ pu (wpAny_bind (wpAny_pure ?_)))))
  show wpAny _ _ (match Builtin.Slice.sliceAdjust none none (-1) (n : Int) with | (lo, hi) => pure (lo, (-1 : Int), Builtin.Slice.slicePlaces lo hi (-1))) _ _ s
  rw [adjust_rev n]
  show wpAny _ _ (pure ((n : Int) - 1, (-1 : Int), Builtin.Slice.slicePlaces ((n : Int) - 1) (-1) (-1))) _ _ s
  rw [places_rev]
  exact wpAny_pure h
theorem getItem_tuple_rev {t sl : Addr} {items : Array Value} {vl vu vs : Value} {Q : Value → Shared → Prop} (ht : IsTup s.heap t items) (hs : s.heap.IsSliceOf sl vl vu vs) (pl : IsPart vl none) (pu : IsPart vu none) (ps : IsPart vs (some (-1)))
    (h : Q (.ref s.heap.objs.size) { s with heap := s.heap.push { cls := .type "tuple", data := .seq items.toList.reverse.toArray } })
    (hsz : items.size ≤ sizeLine) : wpAny (model prog w) A (getItem (.ref t) (.ref sl)) Q E s := by
  have htake : sizeOk (.seq items.toList.reverse.toArray) := by
    show items.toList.reverse.toArray.size ≤ sizeLine
    rw [List.size_toArray, List.length_reverse, Array.length_toList]
    omega
  obtain ⟨os, hos, hcs, hds⟩ := id hs
  have hTs : s.TypeIs (.ref sl) "slice" := ⟨os, hos, hcs⟩
  unfold getItem
  try with_reducible refine wpAny_holding ?_
  first | refine wpAny_bind (wpAny_pure ?_) | skip
  refine wpAny_bind (wpAny_sequenceKey ht.typeIs (by decide) ?_)
  refine wpAny_bind (wpAny_callSpecial?_slot (name := Str.ofString "__getitem__") ht.typeIs PyProof.Rows.slot_tuple_getitem
    (wpAny_call_entry PyProof.Rows.slot_tuple_getitem ht.typeIs entry_tuple_getitem ?_ (args_tuple_getitem _ _)))
  show wpAny _ _ (Builtin.Tuple.tupleItemsOf (.ref t) >>= _) _ _ s
  refine wpAny_bind (tupleItemsOf_ ht ?_)
  refine wpAny_bind (wpAny_typeOf hTs ?_)
  rw [if_pos (by decide)]
  refine wpAny_bind (sliceApplied_rev hs pl pu ps ?_)
  have hno : ¬ ((((items.size : Int) - 1) == 0 && (-1 : Int) == 1 && items.size == items.size) = true) := by
    rw [show ((-1 : Int) == 1) = false from rfl, Bool.and_false, Bool.false_and]
    exact Bool.false_ne_true
  show wpAny _ _ (if (((items.size : Int) - 1) == 0 && (-1 : Int) == 1 && items.size == items.size) = true then _ else _) _ _ s
  rw [if_neg hno, pick_rev]
  first
    | exact wpAny_bind (m := Builtin.Tuple.tupleExact _) (wpAny_newObj_type (wpAny_pure ⟨_, rfl, wpAny_pure h⟩) htake)
    | exact wpAny_bind (m := Builtin.Tuple.tupleExact _) (wpAny_newObj_type (wpAny_bind (wpAny_pure (wpAny_pure ⟨_, rfl, wpAny_pure h⟩))) htake)
    | exact wpAny_bind (wpAny_bind (m := Builtin.Tuple.tupleExact _) (wpAny_newObj_type (wpAny_pure (wpAny_pure ⟨_, rfl, wpAny_pure h⟩)) htake))
    | exact wpAny_bind (wpAny_bind (m := Builtin.Tuple.tupleExact _) (wpAny_newObj_type (wpAny_pure ⟨_, rfl, wpAny_pure h⟩) htake))
end HT
namespace L2
open PySem PySem.Spec PyProof.Rows
section
variable {X : Cx}
/-- t * k, k at most 1 -/
theorem tuple_mul1 (l : Addr) (items : Array Value) (n : Nat) (dd : Option Addr) (sl : Array (Option Value)) (x : Int) (u : Tok) (c0 : (decide (x < -(2 ^ 63)) || decide (x ≥ 2 ^ 63)) = false) (c1 : (items.isEmpty || x == 1) = true) :
    Meets (Builtin.«tuple.__mul__» ⟨[.ref l, .int x u], []⟩) (fun _ R s => s.heap.get? l = some { cls := .type "tuple", dict := dd, data := .seq items n, slots := sl } ∧
      R (.ok (.ret (Value.ref l))) s) :=
  .of_wp fun prog w A R s h => by
    obtain ⟨hp, g, d, tk, os⟩ := s
    obtain ⟨hl, h⟩ := h
    have f1 := AutoSeq1.idx_int
    wp_walk using wpAny_loadPart' hl
    repeat (first
      | (refine wpAny_ite_false (decide_eq_false (by rw [c0]; exact Bool.false_ne_true)) ?_; wp_walk using wpAny_loadPart' hl)
      | (refine wpAny_ite_true (decide_eq_true c1) ?_; wp_walk using wpAny_loadPart' hl))
    all_goals exact ⟨_, rfl, h⟩
theorem tuple_mul0 (l : Addr) (items : Array Value) (n : Nat) (dd : Option Addr) (sl : Array (Option Value)) (x : Int) (u : Tok) (c0 : (decide (x < -(2 ^ 63)) || decide (x ≥ 2 ^ 63)) = false) (c1 : (items.isEmpty || x == 1) = false) (c2 : (decide (x ≤ 0) || items.isEmpty) = true) :
    Meets (Builtin.«tuple.__mul__» ⟨[.ref l, .int x u], []⟩) (fun _ R s => s.heap.get? l = some { cls := .type "tuple", dict := dd, data := .seq items n, slots := sl } ∧
      R (.ok (.ret (Value.ref s.heap.objs.size))) { s with heap := s.heap.push { cls := Value.type "tuple", data := Data.seq #[] }, toks := s.toks }) :=
  .of_wp fun prog w A R s h => by
    obtain ⟨hp, g, d, tk, os⟩ := s
    obtain ⟨hl, h⟩ := h
    have f1 := AutoSeq1.idx_int
    wp_walk using wpAny_loadPart' hl
    repeat (first
      | (refine wpAny_ite_false (decide_eq_false (by rw [c0]; exact Bool.false_ne_true)) ?_; wp_walk using wpAny_loadPart' hl)
      | (refine wpAny_ite_false (decide_eq_false (by rw [c1]; exact Bool.false_ne_true)) ?_; wp_walk using wpAny_loadPart' hl)
      | (refine wpAny_ite_true (decide_eq_true c2) ?_; wp_walk using wpAny_loadPart' hl))
    all_goals exact ⟨_, rfl, h⟩
def rRepA (K : PySem.W.Frag) : R2 := fun x y H Q => ∃ l k xs, x = .ref l ∧ y = .int k ∧ SqT K H l xs ∧ -1000 ≤ k ∧ k ≤ 1000 ∧ xs.length ≤ 1000 ∧ (xs = [] ∨ k = 1 → Q (.ref l) H) ∧ (¬ (xs = [] ∨ k = 1) → ∀ p, H p = none → Q (.ref p) (upd H p (.tup (List.replicate k.toNat xs).flatten)))
theorem op_repA : OpR X (binaryOp .Mult) (rRepA X.K) := by
  intro pins s σ H x y v u Q I rx ry h
  obtain ⟨l, k, xs, rfl, rfl, hT, h0, h1, hz, q1, q2⟩ := h
  by_cases hk : xs = [] ∨ k = 1
  · cases rx
    obtain ⟨t, rfl⟩ := ry
    obtain ⟨its, r, ⟨⟨cls, dd, data, sl⟩, ho, hc, n, hd⟩, hs⟩ := I.tuple hT
    simp only at hc hd
    subst hc hd
    have c0 : (decide (k < -(2 ^ 63)) || decide (k ≥ 2 ^ 63)) = false := by
      rw [decide_eq_false (by omega), decide_eq_false (by omega)] <;> rfl
    have c1 : (its.toArray.isEmpty || k == 1) = true := by
      rcases hk with e | e
      · subst e; cases r; rfl
      · subst e; simp
    exact wpAny_binaryOp_repeat_ref (T := "tuple") (U := "int") (by decide) ⟨_, ho, rfl⟩ (fun s' => typeIs_int s' k t) noFill_tuple_mul F.fills_int_mul F.slot_int_rmul repeat_tuple F.slot_int_index.lookup
      (call_meets F.slot_int_rmul (typeIs_int s k t) F.entry_int_rmul (F.args_int_rmul_2 _ _) (int_rmul_tuple k t l its.toArray n dd sl)
        ⟨ho, rfl, ⟨_, ho, rfl⟩, call_meets F.slot_tuple_mul ⟨_, ho, rfl⟩ F.entry_tuple_mul (F.args_tuple_mul_2 _ _) (tuple_mul1 l its.toArray n dd sl k t c0 c1) ⟨ho, .ref l, H, I, rfl, q1 hk⟩⟩)
  · by_cases hk2 : 2 ≤ k
    · exact op_repT pins s σ H _ _ v u Q I rx ry ⟨_, _, _, rfl, rfl, hT, fun e => hk (.inl e), hk2, h1, hz, q2 hk⟩
    · cases rx
      obtain ⟨t, rfl⟩ := ry
      obtain ⟨its, r, ⟨⟨cls, dd, data, sl⟩, ho, hc, n, hd⟩, hs⟩ := I.tuple hT
      simp only at hc hd
      subst hc hd
      have hkn : k ≤ 0 := by
        have : k ≠ 1 := fun e => hk (.inr e)
        omega
      have hi : its.toArray.isEmpty = false := by
        cases r with
        | nil => exact absurd (.inl rfl) hk
        | cons _ _ => rfl
      have c0 : (decide (k < -(2 ^ 63)) || decide (k ≥ 2 ^ 63)) = false := by
        rw [decide_eq_false (by omega), decide_eq_false (by omega)] <;> rfl
      have c1 : (its.toArray.isEmpty || k == 1) = false := by
        rw [hi, Bool.false_or]
        exact beq_eq_false_iff_ne.mpr (by omega)
      have c2 : (decide (k ≤ 0) || its.toArray.isEmpty) = true := by
        rw [decide_eq_true hkn]; rfl
      have e0 : (List.replicate k.toNat xs).flatten = [] := by rw [show k.toNat = 0 by omega]; rfl
      have q3 := q2 hk
      rw [e0] at q3
      refine wpAny_binaryOp_repeat_ref (T := "tuple") (U := "int") (by decide) ⟨_, ho, rfl⟩ (fun s' => typeIs_int s' k t) noFill_tuple_mul F.fills_int_mul F.slot_int_rmul repeat_tuple F.slot_int_index.lookup
        (call_meets F.slot_int_rmul (typeIs_int s k t) F.entry_int_rmul (F.args_int_rmul_2 _ _) (int_rmul_tuple k t l its.toArray n dd sl)
          ⟨ho, rfl, ⟨_, ho, rfl⟩, call_meets F.slot_tuple_mul ⟨_, ho, rfl⟩ F.entry_tuple_mul (F.args_tuple_mul_2 _ _) (tuple_mul0 l its.toArray n dd sl k t c0 c1 c2) ⟨ho, ?_⟩⟩)
      refine ⟨.ref s.heap.objs.size, _, I.laid (t' := s.toks) (o := .tup []) (fun b ob q => Heap.get?_push_of_some _ q) (Nat.le_refl _) ?_, rfl, q3 _ (I.hok.fresh (Nat.le_refl _))⟩
      exact ⟨by decide, _, .nil, IsTup.new _ _⟩
/-- xs[::-1] of a list or a tuple -/
def tRevA (K : PySem.W.Frag) (te : TE) : TE := fun σ H Q => te σ H fun x H1 => ∃ a xs, x = .ref a ∧ ((SqL K H1 a xs ∧ ∀ p, H1 p = none → Q (.ref p) (upd H1 p (.lst xs.reverse))) ∨ (SqT K H1 a xs ∧ ∀ p, H1 p = none → Q (.ref p) (upd H1 p (.tup xs.reverse))))
theorem pe_revA {e : Expr} {te : TE} {k : Nat} {p1 p2 p3 pos : Pos} (he : PE X e te) : PE X (.Subscript e (.Slice none none (some (.UnaryOp .USub (.Constant (.int 1) k p1) p2)) p3) pos) (tRevA X.K te) := by
  refine ⟨fun pins s σ H Q I h => ?_⟩
  refine Subscript_ (thn (he.run pins s σ H _ I h) fun v s1 ⟨x, H1, I1, r1, q1⟩ => ?_)
  obtain ⟨a, xs, ex, hx⟩ := q1
  subst ex
  cases r1
  have hst : PO X (some (.UnaryOp .USub (.Constant (.int 1) k p1) p2)) (tPart (tUn (rU fun i => .int (-i)) (tC (.int 1)))) := po_some (pe_un un_neg pe_int)
  refine wpAny_Slice (thn (po_none.run pins s1 σ H1 (fun o H2 => o = none ∧ H2 = H1) I1 ⟨rfl, rfl⟩) fun vl s2 ⟨l, H2, I2, pl, el, e2⟩ => ?_)
  subst el e2
  refine thn (po_none.run pins s2 σ H2 (fun o H3 => o = none ∧ H3 = H2) I2 ⟨rfl, rfl⟩) fun vu s3 ⟨u, H3, I3, pu, eu, e3⟩ => ?_
  subst eu e3
  refine thn (hst.run pins s3 σ H3 (fun o H4 => o = some (-1) ∧ H4 = H3) I3 ⟨1, rfl, -1, rfl, rfl, rfl⟩) fun vs s4 ⟨o, H4, I4, ps, eo, e4⟩ => ?_
  subst eo e4
  have I5 : Inv X pins σ H4 { s4 with heap := s4.heap.push { cls := .type "slice", data := .fields #[vl, vu, vs] } } := I4.kept (t' := s4.toks) fun b ob q => Heap.get?_push_of_some _ q
  show wpAny (model X.prog X.w) X.A (subscriptTail e (.Slice none none (some (.UnaryOp .USub (.Constant (.int 1) k p1) p2)) p3) (.ref a) (.ref s4.heap.objs.size)) (EP X pins σ Q) X.xe { s4 with heap := s4.heap.push { cls := .type "slice", data := .fields #[vl, vu, vs] } }
  rcases hx with ⟨hx, q⟩ | ⟨hx, q⟩
  · obtain ⟨its, r, ht, hz⟩ := I5.list hx
    have hlen := r.length
    refine tail_any (ops := [.ref a, .ref s4.heap.objs.size]) ht.isList.typeIs (PySem.slot_list_getitem.lookup) ?_ (by with_unfolding_all rfl)
    refine wpAny_getItem_list_slice ht.isList (Heap.IsSliceOf.new _ vl vu vs) pl pu ps (by decide) ?_ (by rw [List.size_toArray]; omega)
    rw [PySem.W.krv_pick]
    refine ⟨.ref _, _, I5.laid (t' := s4.toks) (o := .lst xs.reverse) (fun b ob q => Heap.get?_push_of_some _ q) (Nat.le_refl _) ?_, rfl, q _ (I5.hok.fresh (Nat.le_refl _))⟩
    exact ⟨by rw [List.length_reverse]; exact hz, _, 0, r.reverse, Heap.get?_push_size _ rfl⟩
  · obtain ⟨its, r, ht, hz⟩ := I5.tuple hx
    have hlen := r.length
    refine tail_any (ops := [.ref a, .ref s4.heap.objs.size]) ht.typeIs (PyProof.Rows.slot_tuple_getitem.lookup) ?_ (by with_unfolding_all rfl)
    refine HT.getItem_tuple_rev ht (Heap.IsSliceOf.new _ vl vu vs) pl pu ps ?_ (by rw [List.size_toArray]; omega)
    refine ⟨.ref _, _, I5.laid (t' := s4.toks) (o := .tup xs.reverse) (fun b ob q => Heap.get?_push_of_some _ q) (Nat.le_refl _) ?_, rfl, q _ (I5.hok.fresh (Nat.le_refl _))⟩
    exact ⟨by rw [List.length_reverse]; exact hz, _, by simpa using r.reverse, IsTup.new _ _⟩
end
end L2
namespace L2
open PySem PySem.Spec PyProof.Rows
section
variable {X : Cx}
/-- x is True -/
theorem op_isB : OpR X (compareOp .Is) (fun x y H Q => ∃ b : Bool, y = .bl b ∧ Q (.bl (decide (x = .bl b))) H) := by
  intro pins s σ H x y v u Q I rx ry h
  obtain ⟨b, rfl, q⟩ := h
  obtain rfl : u = Value.bool b := ry
  have key : wpAny (model X.prog X.w) X.A (compareOp .Is v (.bool b)) (EP X pins σ Q) X.xe s := by
    cases x with
    | bl c =>
      obtain rfl : v = Value.bool c := rx
      by_cases e : c = b
      · subst e; exact wpAny_is_self rfl ⟨.bl true, H, I, rfl, by simpa using q⟩
      · exact wpAny_is_other rfl (fun z => e (Value.bool.inj z)) ⟨.bl false, H, I, rfl, by simpa [e] using q⟩
    | non => obtain rfl : v = Value.none := rx; exact wpAny_is_other rfl (by simp) ⟨.bl false, H, I, rfl, by simpa using q⟩
    | int i => obtain ⟨t, rfl⟩ := rx; exact wpAny_is_other rfl (by simp) ⟨.bl false, H, I, rfl, by simpa using q⟩
    | str i => obtain ⟨t, rfl⟩ := rx; exact wpAny_is_other rfl (by simp) ⟨.bl false, H, I, rfl, by simpa using q⟩
    | byt i => obtain ⟨t, rfl⟩ := rx; exact wpAny_is_other rfl (by simp) ⟨.bl false, H, I, rfl, by simpa using q⟩
    | flt i => obtain ⟨t, rfl⟩ := rx; exact wpAny_is_other rfl (by simp) ⟨.bl false, H, I, rfl, by simpa using q⟩
    | ref a => obtain rfl : v = Value.ref a := rx; exact wpAny_is_other rfl (by simp) ⟨.bl false, H, I, rfl, by simpa using q⟩
    | ty n => obtain rfl : v = Value.type n := rx; exact wpAny_is_other rfl (by simp) ⟨.bl false, H, I, rfl, by simpa using q⟩
  exact key
theorem op_notB : OpR X (compareOp .IsNot) (fun x y H Q => ∃ b : Bool, y = .bl b ∧ Q (.bl (!decide (x = .bl b))) H) := by
  intro pins s σ H x y v u Q I rx ry h
  obtain ⟨b, rfl, q⟩ := h
  obtain rfl : u = Value.bool b := ry
  have key : wpAny (model X.prog X.w) X.A (compareOp .IsNot v (.bool b)) (EP X pins σ Q) X.xe s := by
    cases x with
    | bl c =>
      obtain rfl : v = Value.bool c := rx
      by_cases e : c = b
      · subst e; exact wpAny_isNot_self rfl ⟨.bl false, H, I, rfl, by simpa using q⟩
      · exact wpAny_isNot_other rfl (fun z => e (Value.bool.inj z)) ⟨.bl true, H, I, rfl, by simpa [e] using q⟩
    | non => obtain rfl : v = Value.none := rx; exact wpAny_isNot_other rfl (by simp) ⟨.bl true, H, I, rfl, by simpa using q⟩
    | int i => obtain ⟨t, rfl⟩ := rx; exact wpAny_isNot_other rfl (by simp) ⟨.bl true, H, I, rfl, by simpa using q⟩
    | str i => obtain ⟨t, rfl⟩ := rx; exact wpAny_isNot_other rfl (by simp) ⟨.bl true, H, I, rfl, by simpa using q⟩
    | byt i => obtain ⟨t, rfl⟩ := rx; exact wpAny_isNot_other rfl (by simp) ⟨.bl true, H, I, rfl, by simpa using q⟩
    | flt i => obtain ⟨t, rfl⟩ := rx; exact wpAny_isNot_other rfl (by simp) ⟨.bl true, H, I, rfl, by simpa using q⟩
    | ref a => obtain rfl : v = Value.ref a := rx; exact wpAny_isNot_other rfl (by simp) ⟨.bl true, H, I, rfl, by simpa using q⟩
    | ty n => obtain rfl : v = Value.type n := rx; exact wpAny_isNot_other rfl (by simp) ⟨.bl true, H, I, rfl, by simpa using q⟩
  exact key
end
end L2

set_option Elab.async false
set_option linter.all false
set_option maxRecDepth 100000
set_option maxHeartbeats 2000000
namespace RL
open PySem PySem.Spec PyProof.Rows L2
/-! ### data, cells, values, results -/
abbrev D := PyData
/-- a mutable list: live (it may be changed) or frozen -/
structure Cell where
  live : Bool
  xs : List D
abbrev Sto := List Cell
/-- a value: data; a cell; the script's list; a list of cells -/
inductive Val where
  | d (x : D) | r (n : Nat) | s (ns : List Int) | rs (ns : List Nat) | g (lo hi : Int)
inductive R (α : Type) where
  | ok (a : α) (s : Sto) | ex (c : Nat) (x : D) (s : Sto) | no
def M (α : Type) := Sto → R α
def M.ret {α : Type} (a : α) : M α := fun s => .ok a s
def M.bnd {α β : Type} (m : M α) (f : α → M β) : M β := fun s => match m s with
  | .ok a s' => f a s'
  | .ex c x s' => .ex c x s'
  | .no => .no
instance : Monad M where
  pure := M.ret
  bind := M.bnd
def no {α : Type} : M α := fun _ => .no
def ofO {α : Type} : Option α → M α
  | some a => pure a
  | none => no
/-- what raises is not carried -/
def noEx {α : Type} (m : M α) : M α := fun s => match m s with
  | .ok a s' => .ok a s'
  | _ => .no
def getS : M Sto := fun s => .ok s s
abbrev Env := List (Option Val)
/-! ### the language -/
inductive BOp where
  | add | sub | mul | fdiv | mod | pow
  deriving DecidableEq
inductive COp where
  | eq | ne | lt | le | gt | ge | is | isnot | in_ | notin
  deriving DecidableEq
inductive Ty where
  | int | str | bool | tuple | list | dict
  deriving DecidableEq
inductive Bi where
  | len | all | any | sum | max1 | min1 | max2 | min2 | abs | int | tuple | list | divmod | sorted | strOf
  deriving DecidableEq
mutual
inductive Ex where
  | non | bl (b : Bool) | int (i : Int) | str (x : Str)
  | v (i : Nat) | g (i : Nat)
  | neg (a : Ex) | bin (o : BOp) (a b : Ex)
  | cmp (o : COp) (a b : Ex) | cmp2 (o p : COp) (a b c : Ex)
  | and (a b : Ex) | or (a b : Ex) | not (a : Ex) | ite (c a b : Ex)
  | call (f : Nat) (as : Exs)
  | bi (b : Bi) (as : Exs)
  | listC (a : Ex)
  | rgT (a : Ex) | rgL (cell : Bool) (a : Ex)
  | isi (a : Ex) (t : Ty)
  | tup (as : Exs) | lst (cell : Bool) (as : Exs)
  | ix (a i : Ex)
  | sl (a : Ex) (lo hi : Exs)
  | rev (a : Ex)
  | comp (cell : Bool) (e : Ex) (t : Tg) (it : It) (ifs : Exs) (own : List Nat)
  | comp2 (cell : Bool) (e : Ex) (t : Tg) (it : It) (ifs : Exs) (t2 : Tg) (it2 : It) (ifs2 : Exs) (own own2 : List Nat)
  | app (a b : Ex)
  | upper (a : Ex)
  | never
  | callK (f : Nat) (as kas : Exs) (perm : List Nat)
  | isiT (a : Ex) (ts : List Ty)
  | rgV (a b : Ex)
  | compC (e : Ex) (t : Tg) (it : It) (own : List Nat)
  | compR (cell : Bool) (e : Ex) (i : Nat) (src : Ex) (ifs : Exs) (own : List Nat)
inductive Exs where
  | nil | cons (a : Ex) (as : Exs)
inductive It where
  | seq (e : Ex) | rng1 (a : Ex) | rng2 (a b : Ex) | enum (e : Ex) | zip (a b : Ex)
inductive Tg where
  | n (i : Nat) | t (ts : Tgs) | ix (o i : Ex)
inductive Tgs where
  | nil | cons (t : Tg) (ts : Tgs)
end
mutual
inductive Sm where
  | pass | brk | cont
  | expr (e : Ex) | ret (e : Ex) | retN
  | asg (t : Tg) (e : Ex)
  | par (i j : Nat) (a b : Ex)
  | par3 (i j l : Nat) (a b c : Ex)
  | aug (i : Nat) (o : BOp) (e : Ex)
  | iff (c : Ex) (a b : Sms)
  | for_ (t : Tg) (it : It) (b : Sms)
  | while_ (fuel : Nat) (c : Ex) (b : Sms)
  | raise_ (c : Nat) (e : Ex)
  | never
inductive Sms where
  | nil | cons (a : Sm) (as : Sms)
end
/-! ### plain operations on data -/
def isFlat : D → Bool
  | .none | .bool _ | .int _ | .str _ => true
  | _ => false
def opB : BOp → D → D → Option D
  | .add, .int i, .int j => some (.int (i + j))
  | .add, .str a, .str b => if a.length + b.length ≤ sizeLine then some (.str (a ++ b)) else none
  | .add, .list a, .list b => if a.length + b.length ≤ sizeLine then some (.list (a ++ b)) else none
  | .add, .tuple a, .tuple b => if a.length + b.length ≤ sizeLine then some (.tuple (a ++ b)) else none
  | .sub, .int i, .int j => some (.int (i - j))
  | .mul, .int i, .int j => if (-(2 ^ 64) < i ∧ i < 2 ^ 64) ∨ (-(2 ^ 64) < j ∧ j < 2 ^ 64) then some (.int (i * j)) else none
  | .mul, .list a, .int k => if -(2 ^ 63) ≤ k ∧ k < 2 ^ 63 ∧ a.length * k.toNat ≤ sizeLine then some (.list (List.replicate k.toNat a).flatten) else none
  | .mul, .str a, .int k => if 2 ≤ k ∧ k ≤ 1000 ∧ 1 ≤ a.length ∧ a.length ≤ 1000 then some (.str ⟨(List.replicate k.toNat a.cps).foldl (· ++ ·) #[]⟩) else none
  | .mul, .tuple a, .int k => if -1000 ≤ k ∧ k ≤ 1000 ∧ a.length ≤ 1000 then some (.tuple (List.replicate k.toNat a).flatten) else none
  | .fdiv, .int i, .int j => if 0 < j ∧ j < 1073741824 then some (.int (i / j)) else none
  | .mod, .int i, .int j => if 0 < j then some (.int (i % j)) else none
  | .pow, .int i, .int j => if 0 ≤ j ∧ j ≤ 1000000 ∧ i.natAbs < 2 ^ 64 then some (.int (i ^ j.toNat)) else none
  | _, _, _ => none
def sameKind : D → D → Bool
  | .none, .none | .bool _, .bool _ | .int _, .int _ | .str _, .str _ => true
  | .none, .int _ | .int _, .none | .none, .bool _ | .bool _, .none | .none, .str _ | .str _, .none => true
  | .int _, .str _ | .str _, .int _ | .bool _, .str _ | .str _, .bool _ => true
  | _, _ => false
def eqD (x y : D) : Option Bool := if sameKind x y = true then some (PyData.eqv x y) else if SeqAt.shaped x = true ∧ SeqAt.shaped y = true then some (PyData.eqv x y) else none
def isNone : D → Bool
  | .none => true
  | _ => false
def isB (b : Bool) : D → Bool
  | .bool c => c == b
  | _ => false
def inD (x : D) : D → Option Bool
  | .str z => match x with
    | .str y => some (!(Builtin.Str.occurrences z y 0 z.length 1).isEmpty)
    | _ => none
  | .list ds => if SeqAt.shaped x = true ∧ SeqAt.shaped (.list ds) = true then some (ds.any fun z => PyData.eqv z x) else none
  | .tuple ds => if isFlat x = true ∧ ds.all isFlat = true then some (ds.any fun z => PyData.eqv z x) else none
  | _ => none
def opC : COp → D → D → Option Bool
  | .eq, x, y => eqD x y
  | .ne, x, y => (eqD x y).map (!·)
  | .lt, .int i, .int j => some (decide (i < j))
  | .le, .int i, .int j => some (decide (i ≤ j))
  | .gt, .int i, .int j => some (decide (j < i))
  | .ge, .int i, .int j => some (decide (j ≤ i))
  | .lt, .str a, .str b => some (decide (a.cps.toList < b.cps.toList))
  | .le, .str a, .str b => some (!decide (b.cps.toList < a.cps.toList))
  | .gt, .str a, .str b => some (decide (b.cps.toList < a.cps.toList))
  | .ge, .str a, .str b => some (!decide (a.cps.toList < b.cps.toList))
  | .is, x, .none => some (isNone x)
  | .isnot, x, .none => some (!isNone x)
  | .is, x, .bool b => some (isB b x)
  | .isnot, x, .bool b => some (!isB b x)
  | .in_, x, y => inD x y
  | .notin, x, y => (inD x y).map (!·)
  | _, _, _ => none
def truD : D → Option Bool
  | .none => some false
  | .bool b => some b
  | .int i => some (i != 0)
  | .str x => if x.length ≤ sizeLine then some ((x.length : Int) != 0) else none
  | .list xs => some (!xs.isEmpty)
  | .tuple xs => some (!xs.isEmpty)
  | .dict _ => none
def tyB : Ty → D → Bool
  | .int, .int _ => true
  | .int, .bool _ => true
  | .bool, .bool _ => true
  | .str, .str _ => true
  | .tuple, .tuple _ => true
  | .list, .list _ => true
  | .dict, .dict _ => true
  | _, _ => false
def intsD : List D → Option (List Int)
  | [] => some []
  | .int i :: r => (intsD r).map (i :: ·)
  | _ => none
def boolsD : List D → Option (List Bool)
  | [] => some []
  | .bool i :: r => (boolsD r).map (i :: ·)
  | _ => none
def strsD : List D → Option (List Str)
  | [] => some []
  | .str i :: r => (strsD r).map (i :: ·)
  | _ => none
def maxI : Int → List Int → Int
  | a, [] => a
  | a, b :: r => maxI (if b > a then b else a) r
def minI : Int → List Int → Int
  | a, [] => a
  | a, b :: r => minI (if b < a then b else a) r
def leS (a b : Str) : Bool := !decide (b.cps.toList < a.cps.toList)
def ixD : D → Int → Option D
  | .list xs, i => atI xs i
  | .tuple xs, i => atI xs i
  | .str z, i => if z.length ≤ sizeLine then (atI z.cps.toList i).map fun c => .str ⟨#[c]⟩ else none
  | _, _ => none
def cutD (xs : List D) (lo hi : Option Int) : List D := (xs.drop (HT.sIx xs.length 0 lo)).take (HT.sIx xs.length xs.length hi - HT.sIx xs.length 0 lo)
def slD : D → Option Int → Option Int → Option D
  | .list xs, lo, hi => some (.list (cutD xs lo hi))
  | .tuple xs, lo, hi => some (.tuple (cutD xs lo hi))
  | .str z, lo, hi => if z.length ≤ sizeLine then some (.str (cutS z lo hi)) else none
  | _, _, _ => none
/-! ### values read -/
def look (st : Sto) : Val → Option D
  | .d x => some x
  | .r n => (st[n]?).map fun c => .list c.xs
  | .s ns => some (.list (ns.map .int))
  | .rs _ => none
  | .g _ _ => none
/-- the script's list is not taken -/
def lookT (st : Sto) : Val → Option D
  | .d x => some x
  | .r n => (st[n]?).map fun c => .list c.xs
  | .s _ => none
  | .rs _ => none
  | .g _ _ => none
def lookM (v : Val) : M D := fun st => match look st v with
  | some x => .ok x st
  | none => .no
def lookTM (v : Val) : M D := fun st => match lookT st v with
  | some x => .ok x st
  | none => .no
def freezeAt (st : Sto) (n : Nat) : Sto := match st[n]? with
  | some c => st.set n { c with live := false }
  | none => st
/-- a value that is laid into another: a cell is frozen -/
def moveM : Val → M D
  | .d x => pure x
  | .r n => fun st => match st[n]? with
    | some c => .ok (.list c.xs) (freezeAt st n)
    | none => .no
  | .s _ => no
  | .rs _ => no
  | .g _ _ => no
def movesM : List Val → M (List D)
  | [] => pure []
  | v :: r => do let x ← moveM v; let xs ← movesM r; pure (x :: xs)
def looksM : List Val → M (List D)
  | [] => pure []
  | v :: r => do let x ← lookM v; let xs ← looksM r; pure (x :: xs)
def truM (v : Val) : M Bool := do let x ← lookM v; ofO (truD x)
/-! ### built-ins -/
def rgD (a b : Int) : List D := (List.range (b - a).toNat).map fun (i : Nat) => .int (a + i)
def rgOk (a b : Int) : Prop := -(2 ^ 62) ≤ a ∧ a < 2 ^ 62 ∧ -(2 ^ 62) ≤ b ∧ b < 2 ^ 62 ∧ (b - a).toNat ≤ sizeLine
instance (a b : Int) : Decidable (rgOk a b) := by unfold rgOk; infer_instance
def b1 (f : D → Option D) : List D → Option D
  | [x] => f x
  | _ => none
def b2 (f : D → D → Option D) : List D → Option D
  | [x, y] => f x y
  | _ => none
def lenD : D → Option D
  | .list xs => some (.int xs.length)
  | .tuple xs => some (.int xs.length)
  | .str z => if z.length ≤ sizeLine then some (.int z.length) else none
  | _ => none
def allD : D → Option D
  | .list xs => (boolsD xs).map fun bs => .bool (bs.all id)
  | _ => none
def anyD : D → Option D
  | .list xs => (boolsD xs).map fun bs => .bool (bs.any id)
  | _ => none
def sumD : D → Option D
  | .list xs => (intsD xs).map fun ns => .int ns.sum
  | _ => none
def max1D : D → Option D
  | .list xs => (intsD xs).bind fun ns => match ns with
    | a :: r => some (.int (maxI a r))
    | [] => none
  | _ => none
def min1D : D → Option D
  | .list xs => (intsD xs).bind fun ns => match ns with
    | a :: r => some (.int (minI a r))
    | [] => none
  | _ => none
def int2 (f : Int → Int → D) : D → D → Option D
  | .int i, .int j => some (f i j)
  | _, _ => none
def absD : D → Option D
  | .int i => some (.int (if i < 0 then -i else i))
  | _ => none
def intD : D → Option D
  | .int i => some (.int i)
  | .bool b => some (.int (if b then 1 else 0))
  | _ => none
def tupleD : D → Option D
  | .list xs => some (.tuple xs)
  | .tuple xs => some (.tuple xs)
  | _ => none
def listD : D → Option D
  | .list xs => some (.list xs)
  | .tuple xs => some (.list xs)
  | _ => none
def divmodD : D → D → Option D
  | .int i, .int j => if 0 < j ∧ j < 1073741824 then some (.tuple [.int (i / j), .int (i % j)]) else none
  | _, _ => none
def sortedD : D → Option D
  | .list xs => match intsD xs with
    | some ns => if ns.length < 64 then some (.list ((ns.mergeSort (fun a b => decide (a ≤ b))).map .int)) else none
    | none => match strsD xs with
      | some ss => if ss.length < 64 then some (.list ((ss.mergeSort leS).map .str)) else none
      | none => none
  | _ => none
def strOfD : D → Option D
  | .int i => if i.natAbs.log2 < 1920 then some (.str (toString i)) else none
  | _ => none
def biD : Bi → List D → Option D
  | .len => b1 lenD
  | .all => b1 allD
  | .any => b1 anyD
  | .sum => b1 sumD
  | .max1 => b1 max1D
  | .min1 => b1 min1D
  | .max2 => b2 (int2 fun i j => .int (if j > i then j else i))
  | .min2 => b2 (int2 fun i j => .int (if j < i then j else i))
  | .abs => b1 absD
  | .int => b1 intD
  | .tuple => b1 tupleD
  | .list => b1 listD
  | .divmod => b2 divmodD
  | .sorted => b1 sortedD
  | .strOf => b1 strOfD
/-! ### loops, calls -/
def wipeE (ρ : Env) : List Nat → Env
  | [] => ρ
  | v :: vs => (wipeE ρ vs).set v none
def newCell (xs : List D) : M Val := fun st => .ok (.r st.length) (st ++ [⟨true, xs⟩])
def mkL (cell : Bool) (xs : List D) : M Val := if cell = true then newCell xs else pure (.d (.list xs))
inductive Flow where
  | nx (ρ : Env) | ret (v : Val) | brk (ρ : Env) | ct (ρ : Env)
def getV (ρ : Env) (i : Nat) : M Val := match ρ[i]? with
  | some (some v) => pure v
  | _ => no
def freezeM (n : Nat) : M (List D) := fun st => match st[n]? with
  | some c => .ok c.xs (freezeAt st n)
  | none => .no
/-- a list that a loop walks is frozen -/
def itemsOf : Val → M (List D)
  | .d (.list xs) => pure xs
  | .d (.tuple xs) => pure xs
  | .d (.str z) => if z.cps.size ≤ sizeLine then pure (z.cps.toList.map fun c => .str ⟨#[c]⟩) else no
  | .s ns => pure (ns.map .int)
  | .r n => freezeM n
  | .g lo hi => if rgOk lo hi then pure (rgD lo hi) else no
  | _ => no
def listOf : Val → M (List D)
  | .d (.list xs) => pure xs
  | .s ns => pure (ns.map .int)
  | .r n => freezeM n
  | _ => no
def seqsOf : Val → Val → M (List D × List D)
  | .d (.tuple xs), .d (.tuple ys) => pure (xs, ys)
  | v, w => do let xs ← listOf v; let ys ← listOf w; pure (xs, ys)
def enumD (xs : List D) : List D := xs.zipIdx.map fun p => .tuple [.int (p.2 : Nat), p.1]
def zipD (xs ys : List D) : List D := List.zipWith (fun x y => .tuple [x, y]) xs ys
/-- the elements of a comprehension, in turn -/
def compL {α : Type} (f : α → M (List D)) : List α → M (List D)
  | [] => pure []
  | x :: xs => do
    let r ← f x
    let rs ← compL f xs
    pure (r ++ rs)
def cellsL (f : D → M Nat) : List D → M (List Nat)
  | [] => pure []
  | x :: xs => do
    let n ← f x
    let ns ← cellsL f xs
    pure (n :: ns)
def forL (asg : Val → Env → M Env) (body : Env → M Flow) : List D → Env → M Flow
  | [], ρ => pure (.nx ρ)
  | x :: xs, ρ => do
    let ρ1 ← asg (.d x) ρ
    match ← body ρ1 with
    | .nx ρ2 => forL asg body xs ρ2
    | .ct ρ2 => forL asg body xs ρ2
    | .brk ρ2 => pure (.nx ρ2)
    | .ret v => pure (.ret v)
def whileL (c : Env → M Bool) (body : Env → M Flow) : Nat → Env → M Flow
  | 0, _ => no
  | n + 1, ρ => do
    if ← c ρ then
      match ← body ρ with
      | .nx ρ2 => whileL c body n ρ2
      | .ct ρ2 => whileL c body n ρ2
      | .brk ρ2 => pure (.nx ρ2)
      | .ret v => pure (.ret v)
    else pure (.nx ρ)
/-- a cell is changed -/
def storeM (n : Nat) (f : List D → Option (List D)) : M Unit := fun st => match st[n]? with
  | some ⟨true, xs⟩ => match f xs with
    | some ys => .ok () (st.set n ⟨true, ys⟩)
    | none => .no
  | _ => .no
def asCell : Val → M Nat
  | .r n => pure n
  | _ => no
def asCells : Val → M (List Nat)
  | .rs ns => pure ns
  | _ => no
def appM (n : Nat) (x : D) : M Val := do storeM n (fun xs => if xs.length < sizeLine then some (xs ++ [x]) else none); pure (.d .none)
def setIxM : Val → D → D → M Unit
  | .r n, .int k, x => storeM n fun xs => match ixN xs.length k with
    | some j => some (xs.set j x)
    | none => none
  | _, _, _ => no
def partM : List Val → M (Option Int)
  | [] => pure none
  | [.d (.int i)] => pure (some i)
  | _ => no
/-! ### what it does -/
/-- one item of a comprehension -/
def compF (g : Val → Env → M Env) (tt : Env → M Bool) (te : Env → M Val) (ρ : Env) (own : List Nat) (x : D) : M (List D) := do
  let ρ1 ← g (.d x) (wipeE ρ own)
  if ← tt ρ1 then
    let v ← te ρ1
    let y ← moveM v
    pure [y]
  else pure []
def cellF (g : Val → Env → M Env) (te : Env → M Val) (ρ : Env) (own : List Nat) (x : D) : M Nat := do
  let ρ1 ← g (.d x) (wipeE ρ own)
  let v ← te ρ1
  asCell v
def compRF (i : Nat) (tt : Env → M Bool) (te : Env → M Val) (ρ : Env) (own : List Nat) (n : Nat) : M (List D) := do
  if ← tt ((wipeE ρ own).set i (some (.r n))) then
    let v ← te ((wipeE ρ own).set i (some (.r n)))
    let y ← moveM v
    pure [y]
  else pure []
def comp2F (g : Val → Env → M Env) (tt : Env → M Bool) (mi2 : Env → M (List D)) (f2 : Env → D → M (List D)) (ρ : Env) (own : List Nat) (x : D) : M (List D) := do
  let ρ1 ← g (.d x) (wipeE ρ own)
  if ← tt ρ1 then
    let xs2 ← mi2 ρ1
    compL (f2 ρ1) xs2
  else pure []
def permL (vs : List Val) : List Nat → Option (List Val)
  | [] => some []
  | i :: r => match vs[i]? with
    | some v => (permL vs r).map (v :: ·)
    | none => none
def kargs (n m : Nat) (vs ws : List Val) (perm : List Nat) : Option (List Val) := if vs.length = n ∧ ws.length = m then permL (vs ++ ws) perm else none
def negK : D → M Val
  | .int i => pure (.d (.int (-i)))
  | _ => no
def listK : D → M Val
  | .list xs => newCell xs
  | .tuple xs => newCell xs
  | _ => no
def ixK (x : D) : D → M Val
  | .int k => do let z ← ofO (ixD x k); pure (.d z)
  | _ => no
def rgTK : D → M Val
  | .int n => if rgOk 0 n then pure (.d (.tuple (rgD 0 n))) else no
  | _ => no
def rgLK (cell : Bool) : D → M Val
  | .int n => if rgOk 0 n then mkL cell (rgD 0 n) else no
  | _ => no
def rgVK : D → D → M Val
  | .int i, .int j => pure (.g i j)
  | _, _ => no
def revK : D → M Val
  | .list xs => pure (.d (.list xs.reverse))
  | .tuple xs => pure (.d (.tuple xs.reverse))
  | _ => no
def upperK : D → M Val
  | .str z => if z.length ≤ 5592405 then pure (.d (.str (Txt.upper z))) else no
  | _ => no
def rng1K : D → M (List D)
  | .int j => if rgOk 0 j then pure (rgD 0 j) else no
  | _ => no
def rng2K : D → D → M (List D)
  | .int i, .int j => if rgOk i j then pure (rgD i j) else no
  | _, _ => no
def tupK (xs : List D) : M Val := if xs.length ≤ sizeLine then pure (.d (.tuple xs)) else no
def lstK (cell : Bool) (xs : List D) : M Val := if xs.length ≤ sizeLine then mkL cell xs else no
def gK (G : List D) (i : Nat) : M Val := match G[i]? with
  | some x => pure (.d x)
  | none => no
def augK (o : BOp) : D → D → M Val
  | .int i, .int j => do let z ← ofO (opB o (.int i) (.int j)); pure (.d z)
  | .str i, .str j => do let z ← ofO (opB o (.str i) (.str j)); pure (.d z)
  | _, _ => no
def Exs.len : Exs → Nat
  | .nil => 0
  | .cons _ as => as.len + 1
def Tgs.len : Tgs → Nat
  | .nil => 0
  | .cons _ ts => ts.len + 1
structure Sd where
  val : Env → M Val
  tst : Env → M Bool
structure Sds where
  vals : Env → M (List Val)
  tsts : Env → M Bool
def Sd.of (f : Env → M Val) : Sd := ⟨f, fun ρ => do let v ← f ρ; truM v⟩
section
variable (Φ : Nat → List Val → M Val) (G : List D)
mutual
def ev : Ex → Sd
  | .non => .of fun _ => pure (.d .none)
  | .bl b => .of fun _ => pure (.d (.bool b))
  | .int i => .of fun _ => pure (.d (.int i))
  | .str x => .of fun _ => pure (.d (.str x))
  | .v i => .of fun ρ => getV ρ i
  | .g i => .of fun _ => gK G i
  | .neg a => .of fun ρ => do let v ← (ev a).val ρ; let x ← lookM v; negK x
  | .bin o a b => .of fun ρ => do let v ← (ev a).val ρ; let w ← (ev b).val ρ; let x ← lookTM v; let y ← lookTM w; let z ← ofO (opB o x y); pure (.d z)
  | .cmp o a b => .of fun ρ => do let v ← (ev a).val ρ; let w ← (ev b).val ρ; let x ← lookM v; let y ← lookM w; let z ← ofO (opC o x y); pure (.d (.bool z))
  | .cmp2 o p a b c => .of fun ρ => do
    let v ← (ev a).val ρ
    let w ← (ev b).val ρ
    let x ← lookM v
    let y ← lookM w
    if ← ofO (opC o x y) then
      let u ← (ev c).val ρ
      let y ← lookM w
      let z ← lookM u
      let r ← ofO (opC p y z)
      pure (.d (.bool r))
    else pure (.d (.bool false))
  | .and a b => ⟨fun ρ => do let v ← (ev a).val ρ; if ← truM v then (ev b).val ρ else pure v, fun ρ => do if ← (ev a).tst ρ then (ev b).tst ρ else pure false⟩
  | .or a b => ⟨fun ρ => do let v ← (ev a).val ρ; if ← truM v then pure v else (ev b).val ρ, fun ρ => do if ← (ev a).tst ρ then pure true else (ev b).tst ρ⟩
  | .not a => ⟨fun ρ => do let v ← (ev a).val ρ; let b ← truM v; pure (.d (.bool !b)), fun ρ => do let b ← (ev a).tst ρ; pure !b⟩
  | .ite c a b => ⟨fun ρ => do if ← (ev c).tst ρ then (ev a).val ρ else (ev b).val ρ, fun ρ => do if ← (ev c).tst ρ then (ev a).tst ρ else (ev b).tst ρ⟩
  | .call f as => .of fun ρ => do let vs ← (evs as).vals ρ; Φ f vs
  | .bi b as => .of fun ρ => do let vs ← (evs as).vals ρ; let xs ← looksM vs; let z ← ofO (biD b xs); pure (.d z)
  | .listC a => .of fun ρ => do let v ← (ev a).val ρ; let x ← lookM v; listK x
  | .rgT a => .of fun ρ => do let v ← (ev a).val ρ; let x ← lookM v; rgTK x
  | .rgL cell a => .of fun ρ => do let v ← (ev a).val ρ; let x ← lookM v; rgLK cell x
  | .isi a t => .of fun ρ => do let v ← (ev a).val ρ; let x ← lookM v; pure (.d (.bool (tyB t x)))
  | .tup as => .of fun ρ => do let vs ← (evs as).vals ρ; let xs ← movesM vs; tupK xs
  | .lst cell as => .of fun ρ => do let vs ← (evs as).vals ρ; let xs ← movesM vs; lstK cell xs
  | .ix a i => .of fun ρ => do let v ← (ev a).val ρ; let w ← (ev i).val ρ; let x ← lookM v; let y ← lookM w; ixK x y
  | .sl a lo hi => .of fun ρ => do
    let v ← (ev a).val ρ
    let l ← (evs lo).vals ρ
    let l ← partM l
    let h ← (evs hi).vals ρ
    let h ← partM h
    let x ← lookM v
    let z ← ofO (slD x l h)
    pure (.d z)
  | .rev a => .of fun ρ => do let v ← (ev a).val ρ; let x ← lookM v; revK x
  | .comp cell e t it ifs own => .of fun ρ => do
    let xs ← evI it ρ
    let ys ← noEx (compL (compF (evG t) (evs ifs).tsts (ev e).val ρ own) xs)
    mkL cell ys
  | .comp2 cell e t it ifs t2 it2 ifs2 own own2 => .of fun ρ => do
    let xs ← evI it ρ
    let ys ← noEx (compL (comp2F (evG t) (evs ifs).tsts (evI it2) (fun ρ1 => compF (evG t2) (evs ifs2).tsts (ev e).val ρ1 own2) ρ own) xs)
    lstK cell ys
  | .app a b => .of fun ρ => do let v ← (ev a).val ρ; let n ← asCell v; let w ← (ev b).val ρ; let x ← moveM w; appM n x
  | .upper a => .of fun ρ => do let v ← (ev a).val ρ; let x ← lookM v; upperK x
  | .never => ⟨fun _ => no, fun _ => no⟩
  | .callK f as kas perm => .of fun ρ => do
    let vs ← (evs as).vals ρ
    let ws ← (evs kas).vals ρ
    let us ← ofO (kargs as.len kas.len vs ws perm)
    Φ f us
  | .isiT a ts => .of fun ρ => do let v ← (ev a).val ρ; let x ← lookM v; pure (.d (.bool (ts.any fun t => tyB t x)))
  | .rgV a b => .of fun ρ => do let v ← (ev a).val ρ; let w ← (ev b).val ρ; let x ← lookM v; let y ← lookM w; rgVK x y
  | .compC e t it own => .of fun ρ => do
    let xs ← evI it ρ
    let ns ← noEx (cellsL (cellF (evG t) (ev e).val ρ own) xs)
    pure (.rs ns)
  | .compR cell e i src ifs own => .of fun ρ => do
    let v ← (ev src).val ρ
    let ns ← asCells v
    let ys ← noEx (compL (compRF i (evs ifs).tsts (ev e).val ρ own) ns)
    mkL cell ys
def evs : Exs → Sds
  | .nil => ⟨fun _ => pure [], fun _ => pure true⟩
  | .cons a as => ⟨fun ρ => do let v ← (ev a).val ρ; let vs ← (evs as).vals ρ; pure (v :: vs), fun ρ => do if ← (ev a).tst ρ then (evs as).tsts ρ else pure false⟩
def evI : It → Env → M (List D)
  | .seq e, ρ => do let v ← (ev e).val ρ; itemsOf v
  | .rng1 a, ρ => do let v ← (ev a).val ρ; let x ← lookM v; rng1K x
  | .rng2 a b, ρ => do
    let v ← (ev a).val ρ
    let w ← (ev b).val ρ
    let x ← lookM v
    let y ← lookM w
    rng2K x y
  | .enum e, ρ => do
    let v ← (ev e).val ρ
    let xs ← listOf v
    pure (enumD xs)
  | .zip a b, ρ => do
    let v ← (ev a).val ρ
    let w ← (ev b).val ρ
    let p ← seqsOf v w
    pure (zipD p.1 p.2)
def evG : Tg → Val → Env → M Env
  | .n i, v, ρ => pure (ρ.set i (some v))
  | .t ts, .d (.tuple xs), ρ => if xs.length = ts.len then evGs ts xs ρ else no
  | .t _, _, _ => no
  | .ix o i, v, ρ => do
    let a ← (ev o).val ρ
    let k ← (ev i).val ρ
    let x ← moveM v
    let k ← lookM k
    setIxM a k x
    pure ρ
def evGs : Tgs → List D → Env → M Env
  | .nil, [], ρ => pure ρ
  | .cons t ts, x :: xs, ρ => do let ρ1 ← evG t (.d x) ρ; evGs ts xs ρ1
  | _, _, _ => no
end
mutual
def exS : Sm → Env → M Flow
  | .pass, ρ => pure (.nx ρ)
  | .brk, ρ => pure (.brk ρ)
  | .cont, ρ => pure (.ct ρ)
  | .expr e, ρ => do let _ ← (ev Φ G e).val ρ; pure (.nx ρ)
  | .ret e, ρ => do let v ← (ev Φ G e).val ρ; pure (.ret v)
  | .retN, _ => pure (.ret (.d .none))
  | .asg t e, ρ => do let v ← (ev Φ G e).val ρ; let ρ1 ← evG Φ G t v ρ; pure (.nx ρ1)
  | .par i j a b, ρ => do let v ← (ev Φ G a).val ρ; let w ← (ev Φ G b).val ρ; pure (.nx ((ρ.set i (some v)).set j (some w)))
  | .par3 i j l a b c, ρ => do let v ← (ev Φ G a).val ρ; let w ← (ev Φ G b).val ρ; let u ← (ev Φ G c).val ρ; pure (.nx (((ρ.set i (some v)).set j (some w)).set l (some u)))
  | .aug i o e, ρ => do
    let v ← getV ρ i
    let w ← (ev Φ G e).val ρ
    let x ← lookTM v
    let y ← lookTM w
    let z ← augK o x y
    pure (.nx (ρ.set i (some z)))
  | .iff c a b, ρ => do if ← (ev Φ G c).tst ρ then exSs a ρ else exSs b ρ
  | .for_ t it b, ρ => do
    let xs ← evI Φ G it ρ
    forL (evG Φ G t) (exSs b) xs ρ
  | .while_ n c b, ρ => whileL (ev Φ G c).tst (exSs b) n ρ
  | .raise_ _ _, _ => no
  | .never, _ => no
def exSs : Sms → Env → M Flow
  | .nil, ρ => pure (.nx ρ)
  | .cons a as, ρ => do
    match ← exS a ρ with
    | .nx ρ1 => exSs as ρ1
    | f => pure f
end
end
/-! ### the program -/
structure FnI where
  arity : Nat
  slots : Nat
  cell : Bool
  body : Sms
structure Pr where
  fns : List FnI
  glb : List D
def fin (cell : Bool) (base : Nat) (v : Val) : M Val := fun st => match v with
  | .d x => .ok (.d x) (st.take base)
  | .s ns => .ok (.s ns) (st.take base)
  | .rs _ => .no
  | .g lo hi => .ok (.g lo hi) (st.take base)
  | .r n => if n < base then .ok (.r n) (st.take base) else match st[n]? with
    | some c => if cell = true then .ok (.r base) (st.take base ++ [c]) else .ok (.d (.list c.xs)) (st.take base)
    | none => .no
def startE (slots : Nat) (vs : List Val) : Env := vs.map some ++ List.replicate (slots - vs.length) none
def runF (Φ : Nat → List Val → M Val) (G : List D) (fi : FnI) (vs : List Val) : M Val := fun st =>
  (do match ← exSs Φ G fi.body (startE fi.slots vs) with
      | .ret v => fin fi.cell st.length v
      | .nx _ => fin fi.cell st.length (.d .none)
      | _ => no : M Val) st
def callN (p : Pr) : Nat → Nat → List Val → M Val
  | 0, _, _ => no
  | n + 1, f, vs => match p.fns[f]? with
    | some fi => if vs.length = fi.arity then runF (callN p n) p.glb fi vs else no
    | none => no
end RL

set_option Elab.async false
set_option linter.all false
set_option maxRecDepth 100000
set_option maxHeartbeats 2000000
namespace RL
open PySem PySem.Spec PyProof.Rows L2
/-! ### how data lie in the heap -/
/-- a live cell's place -/
def Live (φ : List Addr) (st : Sto) (a : Addr) : Prop := ∃ (n : Nat) (xs : List D), φ[n]? = some a ∧ st[n]? = some ⟨true, xs⟩
def KTup (K : PySem.W.Frag) (a : Addr) (xs : List V) : Prop :=
  ∃ (o : Obj) (its : Array Value) (n : Nat), K.lookup a = some o ∧ o.cls = .type "tuple" ∧ o.data = .seq its n ∧ its.size ≤ sizeLine ∧ Vals xs its.toList
mutual
inductive Rep (K : PySem.W.Frag) (H : Hp) (L : Addr → Prop) : V → D → Prop
  | non : Rep K H L .non .none
  | bl (b : Bool) : Rep K H L (.bl b) (.bool b)
  | int (i : Int) : Rep K H L (.int i) (.int i)
  | str (x : Str) : Rep K H L (.str x) (.str x)
  | tup {a : Addr} {us : List V} {xs : List D} : H a = some (.tup us) → ¬ L a → Reps K H L us xs → Rep K H L (.ref a) (.tuple xs)
  | tupK {a : Addr} {us : List V} {xs : List D} : KTup K a us → Reps K H L us xs → Rep K H L (.ref a) (.tuple xs)
  | lst {a : Addr} {us : List V} {xs : List D} : H a = some (.lst us) → ¬ L a → Reps K H L us xs → Rep K H L (.ref a) (.list xs)
inductive Reps (K : PySem.W.Frag) (H : Hp) (L : Addr → Prop) : List V → List D → Prop
  | nil : Reps K H L [] []
  | cons {u : V} {us : List V} {x : D} {xs : List D} : Rep K H L u x → Reps K H L us xs → Reps K H L (u :: us) (x :: xs)
end
section
variable {K : PySem.W.Frag} {H H' : Hp} {L L' : Addr → Prop}
mutual
theorem Rep.mono (k : ∀ a o, H a = some o → ¬ L a → H' a = some o ∧ ¬ L' a) : ∀ {u : V} {x : D}, Rep K H L u x → Rep K H' L' u x
  | _, _, .non => .non
  | _, _, .bl b => .bl b
  | _, _, .int i => .int i
  | _, _, .str x => .str x
  | _, _, .tup h n r => .tup (k _ _ h n).1 (k _ _ h n).2 (Reps.mono k r)
  | _, _, .tupK h r => .tupK h (Reps.mono k r)
  | _, _, .lst h n r => .lst (k _ _ h n).1 (k _ _ h n).2 (Reps.mono k r)
theorem Reps.mono (k : ∀ a o, H a = some o → ¬ L a → H' a = some o ∧ ¬ L' a) : ∀ {us : List V} {xs : List D}, Reps K H L us xs → Reps K H' L' us xs
  | _, _, .nil => .nil
  | _, _, .cons h r => .cons (Rep.mono k h) (Reps.mono k r)
end
theorem Reps.length : ∀ {us : List V} {xs : List D}, Reps K H L us xs → us.length = xs.length
  | _, _, .nil => rfl
  | _, _, .cons _ r => congrArg (· + 1) (Reps.length r)
theorem Reps.get : ∀ {us : List V} {xs : List D} {i : Nat} {x : D}, Reps K H L us xs → xs[i]? = some x → ∃ u, us[i]? = some u ∧ Rep K H L u x
  | _, _, _, _, .nil, e => by simp at e
  | _, _, 0, x, .cons (u := u) h r, e => ⟨u, rfl, by simp at e; exact e ▸ h⟩
  | _, _, i + 1, x, .cons h r, e => by
    obtain ⟨u, h1, h2⟩ := Reps.get (i := i) (x := x) r (by simpa using e)
    exact ⟨u, by simpa using h1, h2⟩
theorem Reps.get' : ∀ {us : List V} {xs : List D} {i : Nat} {u : V}, Reps K H L us xs → us[i]? = some u → ∃ x, xs[i]? = some x ∧ Rep K H L u x
  | _, _, _, _, .nil, e => by simp at e
  | _, _, 0, u, .cons (x := x) h r, e => ⟨x, rfl, by simp at e; exact e ▸ h⟩
  | _, _, i + 1, u, .cons h r, e => by
    obtain ⟨x, h1, h2⟩ := Reps.get' (i := i) (u := u) r (by simpa using e)
    exact ⟨x, by simpa using h1, h2⟩
theorem Reps.app : ∀ {us vs : List V} {xs ys : List D}, Reps K H L us xs → Reps K H L vs ys → Reps K H L (us ++ vs) (xs ++ ys)
  | _, _, _, _, .nil, s => s
  | _, _, _, _, .cons h r, s => .cons h (Reps.app r s)
theorem Reps.take : ∀ {us : List V} {xs : List D} (n : Nat), Reps K H L us xs → Reps K H L (us.take n) (xs.take n)
  | _, _, 0, _ => .nil
  | _, _, _ + 1, .nil => .nil
  | _, _, n + 1, .cons h r => .cons h (Reps.take n r)
theorem Reps.drop : ∀ {us : List V} {xs : List D} (n : Nat), Reps K H L us xs → Reps K H L (us.drop n) (xs.drop n)
  | _, _, 0, r => r
  | _, _, _ + 1, .nil => .nil
  | _, _, n + 1, .cons _ r => Reps.drop n r
theorem Reps.set {u : V} {x : D} (h : Rep K H L u x) : ∀ {us : List V} {xs : List D} (i : Nat), Reps K H L us xs → Reps K H L (us.set i u) (xs.set i x)
  | _, _, _, .nil => .nil
  | _, _, 0, .cons _ r => .cons h r
  | _, _, i + 1, .cons q r => .cons q (Reps.set h i r)
theorem Reps.rev : ∀ {us : List V} {xs : List D}, Reps K H L us xs → Reps K H L us.reverse xs.reverse
  | _, _, .nil => .nil
  | _, _, .cons h r => by rw [List.reverse_cons, List.reverse_cons]; exact Reps.app (Reps.rev r) (.cons h .nil)
theorem Reps.rep {us : List V} {xs : List D} (r : Reps K H L us xs) : ∀ n : Nat, Reps K H L (List.replicate n us).flatten (List.replicate n xs).flatten
  | 0 => .nil
  | n + 1 => by
    rw [List.replicate_succ, List.replicate_succ, List.flatten_cons, List.flatten_cons]
    exact Reps.app r (Reps.rep r n)
theorem Reps.ofInts : ∀ ns : List Int, Reps K H L (ns.map V.int) (ns.map PyData.int)
  | [] => .nil
  | n :: r => .cons (.int n) (Reps.ofInts r)
theorem Reps.ofStrs : ∀ ns : List Str, Reps K H L (ns.map V.str) (ns.map PyData.str)
  | [] => .nil
  | n :: r => .cons (.str n) (Reps.ofStrs r)
theorem intsD_some : ∀ {xs : List D} {ns : List Int}, intsD xs = some ns → xs = ns.map PyData.int
  | [], _, e => by cases e; rfl
  | .int i :: r, ns, e => by
    have e1 : (intsD r).map (i :: ·) = some ns := e
    cases q : intsD r with
    | none => rw [q] at e1; cases e1
    | some ms => rw [q] at e1; cases e1; rw [intsD_some q]; rfl
  | .none :: _, _, e => nomatch e
  | .bool _ :: _, _, e => nomatch e
  | .str _ :: _, _, e => nomatch e
  | .list _ :: _, _, e => nomatch e
  | .tuple _ :: _, _, e => nomatch e
  | .dict _ :: _, _, e => nomatch e
theorem boolsD_some : ∀ {xs : List D} {ns : List Bool}, boolsD xs = some ns → xs = ns.map PyData.bool
  | [], _, e => by cases e; rfl
  | .bool i :: r, ns, e => by
    have e1 : (boolsD r).map (i :: ·) = some ns := e
    cases q : boolsD r with
    | none => rw [q] at e1; cases e1
    | some ms => rw [q] at e1; cases e1; rw [boolsD_some q]; rfl
  | .none :: _, _, e => nomatch e
  | .int _ :: _, _, e => nomatch e
  | .str _ :: _, _, e => nomatch e
  | .list _ :: _, _, e => nomatch e
  | .tuple _ :: _, _, e => nomatch e
  | .dict _ :: _, _, e => nomatch e
theorem strsD_some : ∀ {xs : List D} {ns : List Str}, strsD xs = some ns → xs = ns.map PyData.str
  | [], _, e => by cases e; rfl
  | .str i :: r, ns, e => by
    have e1 : (strsD r).map (i :: ·) = some ns := e
    cases q : strsD r with
    | none => rw [q] at e1; cases e1
    | some ms => rw [q] at e1; cases e1; rw [strsD_some q]; rfl
  | .none :: _, _, e => nomatch e
  | .int _ :: _, _, e => nomatch e
  | .bool _ :: _, _, e => nomatch e
  | .list _ :: _, _, e => nomatch e
  | .tuple _ :: _, _, e => nomatch e
  | .dict _ :: _, _, e => nomatch e
theorem Reps.ints : ∀ {us : List V} {ns : List Int}, Reps K H L us (ns.map PyData.int) → us = ns.map V.int
  | _, [], r => by cases r; rfl
  | _, n :: ns, r => by
    cases r with
    | cons h r => cases h; rw [Reps.ints r]; rfl
theorem Reps.bools : ∀ {us : List V} {ns : List Bool}, Reps K H L us (ns.map PyData.bool) → us = ns.map V.bl
  | _, [], r => by cases r; rfl
  | _, n :: ns, r => by
    cases r with
    | cons h r => cases h; rw [Reps.bools r]; rfl
theorem Reps.strs : ∀ {us : List V} {ns : List Str}, Reps K H L us (ns.map PyData.str) → us = ns.map V.str
  | _, [], r => by cases r; rfl
  | _, n :: ns, r => by
    cases r with
    | cons h r => cases h; rw [Reps.strs r]; rfl
end
/-! ### the script -/
def ScL (K : PySem.W.Frag) (H : Hp) (L : Addr → Prop) (a : Addr) (ns : List Int) : Prop := (∃ o, H a = some (.frz o (.lst (ns.map V.int))) ∧ ¬ L a) ∨
  ∃ (o : Obj) (its : Array Value) (n : Nat), K.lookup a = some o ∧ o.cls = .type "list" ∧ o.dict = none ∧ o.data = .seq its n ∧ its.size ≤ sizeLine ∧ Vals (ns.map V.int) its.toList
theorem ScL.mono {K : PySem.W.Frag} {H H' : Hp} {L L' : Addr → Prop} {a : Addr} {ns : List Int} (h : ScL K H L a ns) (k : ∀ a o, H a = some o → ¬ L a → H' a = some o ∧ ¬ L' a) : ScL K H' L' a ns := by
  rcases h with ⟨o, h, n⟩ | h
  · exact .inl ⟨o, k _ _ h n⟩
  · exact .inr h
theorem ScL.sq {K : PySem.W.Frag} {H : Hp} {L : Addr → Prop} {a : Addr} {ns : List Int} (h : ScL K H L a ns) : SqL K H a (ns.map V.int) := by
  rcases h with ⟨o, h, n⟩ | h
  · exact .inl (.inr ⟨o, h⟩)
  · exact .inr h
/-! ### states -/
def LvZ (Z : Addr → Prop) (φ : List Addr) (st : Sto) (a : Addr) : Prop := Live φ st a ∨ Z a
/-- what is tracked is within the line -/
def Good (K : PySem.W.Frag) (H : Hp) : Prop := ∀ a xs, SqL K H a xs ∨ SqT K H a xs → xs.length ≤ sizeLine
structure RelSt (K : PySem.W.Frag) (Z : Addr → Prop) (φ : List Addr) (st : Sto) (H : Hp) : Prop where
  len : φ.length = st.length
  nd : φ.Nodup
  cell : ∀ (n : Nat) (a : Addr) (c : Cell), φ[n]? = some a → st[n]? = some c → ∃ us, H a = some (.lst us) ∧ Reps K H (LvZ Z φ st) us c.xs
  res : ∀ a, Z a → a ∉ φ ∧ H a ≠ none
structure Ext (Z : Addr → Prop) (φ : List Addr) (st : Sto) (H : Hp) (φ' : List Addr) (st' : Sto) (H' : Hp) : Prop where
  pre : ∃ t, φ' = φ ++ t
  new : ∀ a, a ∈ φ' → a ∉ φ → H a = none
  keep : ∀ a o, H a = some o → ¬ LvZ Z φ st a → H' a = some o ∧ ¬ LvZ Z φ' st' a
  zk : ∀ a, Z a → H' a = H a
  isS : ∀ a, H a ≠ none → H' a ≠ none
/-- what no cell and no reserve has stays -/
def Kp (Z : Addr → Prop) (φ : List Addr) (st : Sto) (H : Hp) (Z' : Addr → Prop) (φ' : List Addr) (st' : Sto) (H' : Hp) : Prop := ∀ a o, H a = some o → ¬ LvZ Z φ st a → H' a = some o ∧ ¬ LvZ Z' φ' st' a
/-- a list of cells -/
inductive CellsR (φ : List Addr) : List V → List Nat → Prop
  | nil : CellsR φ [] []
  | cons {a : Addr} {n : Nat} {us : List V} {ns : List Nat} : φ[n]? = some a → CellsR φ us ns → CellsR φ (.ref a :: us) (n :: ns)
inductive RepV (K : PySem.W.Frag) (Z : Addr → Prop) (φ : List Addr) (st : Sto) (H : Hp) : V → Val → Prop
  | d {u : V} {x : D} : Rep K H (LvZ Z φ st) u x → RepV K Z φ st H u (.d x)
  | r {a : Addr} {n : Nat} : φ[n]? = some a → RepV K Z φ st H (.ref a) (.r n)
  | s {a : Addr} {ns : List Int} : ScL K H (LvZ Z φ st) a ns → True → RepV K Z φ st H (.ref a) (.s ns)
  | rs {a : Addr} {us : List V} {ns : List Nat} : H a = some (.lst us) → ¬ LvZ Z φ st a → CellsR φ us ns → RepV K Z φ st H (.ref a) (.rs ns)
  | g {a : Addr} {lo hi : Int} : H a = some (.rng lo hi) → ¬ LvZ Z φ st a → RepV K Z φ st H (.ref a) (.g lo hi)
inductive RepVs (K : PySem.W.Frag) (Z : Addr → Prop) (φ : List Addr) (st : Sto) (H : Hp) : List V → List Val → Prop
  | nil : RepVs K Z φ st H [] []
  | cons {u : V} {us : List V} {v : Val} {vs : List Val} : RepV K Z φ st H u v → RepVs K Z φ st H us vs → RepVs K Z φ st H (u :: us) (v :: vs)
/-- the slots -/
def RelE (K : PySem.W.Frag) (Z : Addr → Prop) (φ : List Addr) (st : Sto) (H : Hp) (ρ : Env) (σ : L2.St) : Prop :=
  ρ.length = σ.length ∧ ∀ (i : Nat) (v : Val), ρ[i]? = some (some v) → ∃ u, σ[i]? = some (some u) ∧ RepV K Z φ st H u v
section
variable {K : PySem.W.Frag} {Z : Addr → Prop} {φ φ' φ'' : List Addr} {st st' st'' : Sto} {H H' H'' : Hp}
theorem Ext.refl : Ext Z φ st H φ st H := ⟨⟨[], by simp⟩, fun _ h n => absurd h n, fun _ _ h n => ⟨h, n⟩, fun _ _ => rfl, fun _ h => h⟩
theorem Ext.trans (a : Ext Z φ st H φ' st' H') (b : Ext Z φ' st' H' φ'' st'' H'') : Ext Z φ st H φ'' st'' H'' where
  pre := by
    obtain ⟨t, e⟩ := a.pre
    obtain ⟨t', e'⟩ := b.pre
    exact ⟨t ++ t', by rw [e', e, List.append_assoc]⟩
  new := fun x hx nx => by
    by_cases q : x ∈ φ'
    · exact a.new x q nx
    · have h1 := b.new x hx q
      cases e : H x with
      | none => rfl
      | some o => exact absurd h1 (a.isS x (by rw [e]; simp))
  keep := fun x o h n => let ⟨h1, n1⟩ := a.keep x o h n; b.keep x o h1 n1
  zk := fun x z => (b.zk x z).trans (a.zk x z)
  isS := fun x h => b.isS x (a.isS x h)
theorem Ext.get (e : Ext Z φ st H φ' st' H') {n : Nat} {a : Addr} (h : φ[n]? = some a) : φ'[n]? = some a := by
  obtain ⟨t, rfl⟩ := e.pre
  have hl : n < φ.length := by
    rcases Nat.lt_or_ge n φ.length with q | q
    · exact q
    · rw [List.getElem?_eq_none q] at h; cases h
  rw [List.getElem?_append_left hl]; exact h
theorem Rep.ext (e : Ext Z φ st H φ' st' H') {u : V} {x : D} (r : Rep K H (LvZ Z φ st) u x) : Rep K H' (LvZ Z φ' st') u x := r.mono fun a o h n => e.keep a o h n
theorem Reps.ext (e : Ext Z φ st H φ' st' H') {u : List V} {x : List D} (r : Reps K H (LvZ Z φ st) u x) : Reps K H' (LvZ Z φ' st') u x := r.mono fun a o h n => e.keep a o h n
theorem CellsR.ext (e : Ext Z φ st H φ' st' H') : ∀ {us : List V} {ns : List Nat}, CellsR φ us ns → CellsR φ' us ns
  | _, _, .nil => .nil
  | _, _, .cons h r => .cons (e.get h) (CellsR.ext e r)
theorem CellsR.pre {t : List Addr} : ∀ {us : List V} {ns : List Nat}, CellsR φ us ns → CellsR (φ ++ t) us ns
  | _, _, .nil => .nil
  | _, _, .cons h r => .cons (by rw [List.getElem?_append_left (List.getElem?_eq_some_iff.mp h).1]; exact h) (CellsR.pre r)
theorem RepV.ext (e : Ext Z φ st H φ' st' H') {u : V} {v : Val} (r : RepV K Z φ st H u v) : RepV K Z φ' st' H' u v := by
  cases r with
  | d r => exact .d (r.ext e)
  | r h => exact .r (e.get h)
  | s h n => exact .s (h.mono e.keep) n
  | rs h n c => exact .rs (e.keep _ _ h n).1 (e.keep _ _ h n).2 (c.ext e)
  | g h n => exact .g (e.keep _ _ h n).1 (e.keep _ _ h n).2
theorem RepVs.ext (e : Ext Z φ st H φ' st' H') : ∀ {u : List V} {v : List Val}, RepVs K Z φ st H u v → RepVs K Z φ' st' H' u v
  | _, _, .nil => .nil
  | _, _, .cons h r => .cons (h.ext e) (RepVs.ext e r)
theorem RepVs.length : ∀ {u : List V} {v : List Val}, RepVs K Z φ st H u v → u.length = v.length
  | _, _, .nil => rfl
  | _, _, .cons _ r => congrArg (· + 1) (RepVs.length r)
theorem RelE.ext (e : Ext Z φ st H φ' st' H') {ρ : Env} {σ : L2.St} (r : RelE K Z φ st H ρ σ) : RelE K Z φ' st' H' ρ σ :=
  ⟨r.1, fun i v h => let ⟨u, h1, h2⟩ := r.2 i v h; ⟨u, h1, h2.ext e⟩⟩
theorem RelE.set {ρ : Env} {σ : L2.St} (r : RelE K Z φ st H ρ σ) {u : V} {v : Val} (h : RepV K Z φ st H u v) (i : Nat) : RelE K Z φ st H (ρ.set i (some v)) (σ.set i (some u)) := by
  refine ⟨by simp [r.1], fun j w e => ?_⟩
  by_cases hj : i = j
  · subst hj
    by_cases hl : i < ρ.length
    · rw [List.getElem?_set_self hl] at e
      cases e
      exact ⟨u, by rw [List.getElem?_set_self (by rw [← r.1]; exact hl)], h⟩
    · rw [List.getElem?_eq_none (by simp; omega)] at e; cases e
  · rw [List.getElem?_set_ne hj] at e
    obtain ⟨u', h1, h2⟩ := r.2 j w e
    exact ⟨u', by rw [List.getElem?_set_ne hj]; exact h1, h2⟩
theorem RelE.wipe {ρ : Env} {σ : L2.St} (r : RelE K Z φ st H ρ σ) : ∀ vs : List Nat, RelE K Z φ st H (wipeE ρ vs) (L2.wipe σ vs)
  | [] => r
  | v :: vs => by
    have q := RelE.wipe r vs
    unfold wipeE L2.wipe
    refine ⟨by simp [q.1], fun j w e => ?_⟩
    by_cases hj : v = j
    · subst hj
      by_cases hl : v < (wipeE ρ vs).length
      · rw [List.getElem?_set_self hl] at e; cases e
      · rw [List.getElem?_eq_none (by simp; omega)] at e; cases e
    · rw [List.getElem?_set_ne hj] at e
      obtain ⟨u', h1, h2⟩ := q.2 j w e
      exact ⟨u', by rw [List.getElem?_set_ne hj]; exact h1, h2⟩
/-! ### steps of the heap -/
/-- a new object that is no cell's -/
theorem Ext.laid (S : RelSt K Z φ st H) {p : Addr} {o : HO} (hp : H p = none) : Ext Z φ st H φ st (upd H p o) where
  pre := ⟨[], by simp⟩
  new := fun _ h n => absurd h n
  keep := fun a o' h n => ⟨by rw [upd_ne (ne_of_none h hp)]; exact h, n⟩
  zk := fun a z => upd_ne fun e => (S.res a z).2 (by rw [e]; exact hp)
  isS := fun a h => by
    by_cases e : a = p
    · rw [e, upd_same]; simp
    · rw [upd_ne e]; exact h
theorem RelSt.laid (S : RelSt K Z φ st H) {p : Addr} {o : HO} (hp : H p = none) : RelSt K Z φ st (upd H p o) where
  len := S.len
  nd := S.nd
  cell := fun n a c h1 h2 => by
    obtain ⟨us, h3, h4⟩ := S.cell n a c h1 h2
    exact ⟨us, by rw [upd_ne (ne_of_none h3 hp)]; exact h3, h4.ext (Ext.laid S hp)⟩
  res := fun a z => ⟨(S.res a z).1, (Ext.laid S hp).isS a (S.res a z).2⟩
/-- what is not tracked is no cell's -/
theorem RelSt.nlive (S : RelSt K Z φ st H) {p : Addr} (hp : H p = none) : ¬ LvZ Z φ st p := by
  rintro (⟨n, xs, h1, h2⟩ | z)
  · obtain ⟨us, h3, _⟩ := S.cell n p _ h1 h2
    rw [hp] at h3; cases h3
  · exact (S.res p z).2 hp
theorem RelSt.nin (S : RelSt K Z φ st H) {p : Addr} (hp : H p = none) : p ∉ φ := fun h => by
  obtain ⟨n, hn, e⟩ := List.mem_iff_getElem.mp h
  have h1 : φ[n]? = some p := by rw [List.getElem?_eq_getElem hn, e]
  have hl : n < st.length := by rw [← S.len]; exact hn
  obtain ⟨us, h3, _⟩ := S.cell n p st[n] h1 (List.getElem?_eq_getElem hl)
  rw [hp] at h3; cases h3
theorem RelSt.at (S : RelSt K Z φ st H) {n : Nat} {c : Cell} (h : st[n]? = some c) : ∃ a us, φ[n]? = some a ∧ H a = some (.lst us) ∧ Reps K H (LvZ Z φ st) us c.xs := by
  have hl : n < st.length := by
    rcases Nat.lt_or_ge n st.length with q | q
    · exact q
    · rw [List.getElem?_eq_none q] at h; cases h
  have hφ : n < φ.length := by rw [S.len]; exact hl
  have h1 : φ[n]? = some φ[n] := List.getElem?_eq_getElem hφ
  obtain ⟨us, h3, h4⟩ := S.cell n _ c h1 h
  exact ⟨_, us, h1, h3, h4⟩
theorem RelSt.atA (S : RelSt K Z φ st H) {n : Nat} {a : Addr} (h : φ[n]? = some a) : ∃ c, st[n]? = some c := by
  have hl : n < φ.length := by
    rcases Nat.lt_or_ge n φ.length with q | q
    · exact q
    · rw [List.getElem?_eq_none q] at h; cases h
  have hs : n < st.length := by rw [← S.len]; exact hl
  exact ⟨_, List.getElem?_eq_getElem hs⟩
/-- a new cell -/
theorem live_app {p a : Addr} {xs : List D} (hl : φ.length = st.length) : Live (φ ++ [p]) (st ++ [⟨true, xs⟩]) a ↔ Live φ st a ∨ a = p := by
  constructor
  · rintro ⟨n, ys, h1, h2⟩
    by_cases q : n < φ.length
    · rw [List.getElem?_append_left q] at h1
      rw [List.getElem?_append_left (by omega)] at h2
      exact .inl ⟨n, ys, h1, h2⟩
    · by_cases q2 : n = φ.length
      · subst q2
        simp at h1
        exact .inr h1.symm
      · rw [List.getElem?_eq_none (by simp; omega)] at h1; cases h1
  · rintro (⟨n, ys, h1, h2⟩ | rfl)
    · have q : n < φ.length := by
        rcases Nat.lt_or_ge n φ.length with q | q
        · exact q
        · rw [List.getElem?_eq_none q] at h1; cases h1
      exact ⟨n, ys, by rw [List.getElem?_append_left q]; exact h1, by rw [List.getElem?_append_left (by omega)]; exact h2⟩
    · exact ⟨φ.length, xs, by simp, by rw [hl]; simp⟩
theorem Ext.cell (S : RelSt K Z φ st H) {p : Addr} {us : List V} {xs : List D} (hp : H p = none) : Ext Z φ st H (φ ++ [p]) (st ++ [⟨true, xs⟩]) (upd H p (.lst us)) where
  pre := ⟨[p], rfl⟩
  new := fun a h n => by
    rcases List.mem_append.mp h with q | q
    · exact absurd q n
    · rw [List.mem_singleton.mp q]; exact hp
  keep := fun a o' h n => by
    have ne := ne_of_none h hp
    refine ⟨by rw [upd_ne ne]; exact h, ?_⟩
    rintro (q | q)
    · rcases (live_app S.len).mp q with q | q
      · exact n (.inl q)
      · exact ne q
    · exact n (.inr q)
  zk := fun a z => upd_ne fun e => (S.res a z).2 (by rw [e]; exact hp)
  isS := fun a h => by
    by_cases e : a = p
    · rw [e, upd_same]; simp
    · rw [upd_ne e]; exact h
theorem RelSt.newc (S : RelSt K Z φ st H) {p : Addr} {us : List V} {xs : List D} (hp : H p = none) (r : Reps K H (LvZ Z φ st) us xs) : RelSt K Z (φ ++ [p]) (st ++ [⟨true, xs⟩]) (upd H p (.lst us)) where
  len := by simp [S.len]
  nd := by
    rw [List.nodup_append]
    refine ⟨S.nd, by simp, fun a ha b hb => ?_⟩
    rw [List.mem_singleton.mp hb]
    intro e
    exact S.nin hp (e ▸ ha)
  cell := fun n a c h1 h2 => by
    by_cases q : n < φ.length
    · rw [List.getElem?_append_left q] at h1
      rw [List.getElem?_append_left (by have := S.len; omega)] at h2
      obtain ⟨ws, h3, h4⟩ := S.cell n a c h1 h2
      exact ⟨ws, by rw [upd_ne (ne_of_none h3 hp)]; exact h3, h4.ext (Ext.cell S hp)⟩
    · by_cases q2 : n = φ.length
      · subst q2
        simp at h1
        rw [S.len] at h2
        simp at h2
        subst h1 h2
        exact ⟨us, upd_same, r.ext (Ext.cell S hp)⟩
      · rw [List.getElem?_eq_none (by simp; omega)] at h1; cases h1
  res := fun a z => by
    refine ⟨fun h => ?_, (Ext.cell (us := us) (xs := xs) S hp).isS a (S.res a z).2⟩
    rcases List.mem_append.mp h with q | q
    · exact (S.res a z).1 q
    · rw [List.mem_singleton.mp q] at z; exact (S.res p z).2 hp
/-- two cells stand apart -/
theorem nd_inj {φ : List Addr} (nd : φ.Nodup) {n m : Nat} {a : Addr} (h1 : φ[n]? = some a) (h2 : φ[m]? = some a) : n = m := by
  have l1 : n < φ.length := by
    rcases Nat.lt_or_ge n φ.length with q | q
    · exact q
    · rw [List.getElem?_eq_none q] at h1; cases h1
  have l2 : m < φ.length := by
    rcases Nat.lt_or_ge m φ.length with q | q
    · exact q
    · rw [List.getElem?_eq_none q] at h2; cases h2
  rw [List.getElem?_eq_getElem l1] at h1
  rw [List.getElem?_eq_getElem l2] at h2
  have e := (Option.some.inj h1).trans (Option.some.inj h2).symm
  have pw := List.pairwise_iff_getElem.mp nd
  rcases Nat.lt_trichotomy n m with q | q | q
  · exact absurd e (pw n m l1 l2 q)
  · exact q
  · exact absurd e.symm (pw m n l2 l1 q)
theorem live_set {n : Nat} {a b : Addr} {xs ys : List D} (nd : φ.Nodup) (h1 : φ[n]? = some a) (h2 : st[n]? = some ⟨true, xs⟩) : Live φ (st.set n ⟨true, ys⟩) b ↔ Live φ st b := by
  have hl : n < st.length := by
    rcases Nat.lt_or_ge n st.length with q | q
    · exact q
    · rw [List.getElem?_eq_none q] at h2; cases h2
  constructor
  · rintro ⟨m, zs, h3, h4⟩
    by_cases q : n = m
    · subst q; exact ⟨n, xs, h3, h2⟩
    · rw [List.getElem?_set_ne q] at h4; exact ⟨m, zs, h3, h4⟩
  · rintro ⟨m, zs, h3, h4⟩
    by_cases q : n = m
    · subst q; exact ⟨n, ys, h3, List.getElem?_set_self hl⟩
    · exact ⟨m, zs, h3, by rw [List.getElem?_set_ne q]; exact h4⟩
/-- a live cell is changed -/
theorem Ext.store (S : RelSt K Z φ st H) {n : Nat} {a : Addr} {xs ys : List D} {us : List V} (h1 : φ[n]? = some a) (h2 : st[n]? = some ⟨true, xs⟩) : Ext Z φ st H φ (st.set n ⟨true, ys⟩) (upd H a (.lst us)) where
  pre := ⟨[], by simp⟩
  new := fun _ h n => absurd h n
  keep := fun b o h nl => by
    have ne : b ≠ a := fun e => nl (.inl ⟨n, xs, e ▸ h1, h2⟩)
    refine ⟨by rw [upd_ne ne]; exact h, ?_⟩
    rintro (q | q)
    · exact nl (.inl ((live_set S.nd h1 h2).mp q))
    · exact nl (.inr q)
  zk := fun b z => upd_ne fun e => (S.res b z).1 (by rw [e]; exact List.mem_of_getElem? h1)
  isS := fun b h => by
    by_cases e : b = a
    · rw [e, upd_same]; simp
    · rw [upd_ne e]; exact h
theorem RelSt.store (S : RelSt K Z φ st H) {n : Nat} {a : Addr} {xs ys : List D} {us : List V} (h1 : φ[n]? = some a) (h2 : st[n]? = some ⟨true, xs⟩) (r : Reps K H (LvZ Z φ st) us ys) :
    RelSt K Z φ (st.set n ⟨true, ys⟩) (upd H a (.lst us)) where
  len := by simp [S.len]
  nd := S.nd
  cell := fun m b c h3 h4 => by
    have E := Ext.store S (ys := ys) (us := us) h1 h2
    by_cases q : n = m
    · subst q
      have hl : n < st.length := by
        rcases Nat.lt_or_ge n st.length with q | q
        · exact q
        · rw [List.getElem?_eq_none q] at h2; cases h2
      rw [List.getElem?_set_self hl] at h4
      cases h4
      rw [h1] at h3; cases h3
      exact ⟨us, upd_same, r.ext E⟩
    · rw [List.getElem?_set_ne q] at h4
      obtain ⟨ws, h5, h6⟩ := S.cell m b c h3 h4
      have ne : b ≠ a := fun e => q (nd_inj S.nd h1 (e ▸ h3))
      exact ⟨ws, by rw [upd_ne ne]; exact h5, h6.ext E⟩
  res := fun b z => ⟨(S.res b z).1, (Ext.store (us := us) (ys := ys) S h1 h2).isS b (S.res b z).2⟩
/-- a cell is frozen -/
theorem live_freeze {n : Nat} {b : Addr} (h : Live φ (freezeAt st n) b) : Live φ st b := by
  obtain ⟨m, zs, h3, h4⟩ := h
  unfold freezeAt at h4
  cases e : st[n]? with
  | none => rw [e] at h4; exact ⟨m, zs, h3, h4⟩
  | some c =>
    rw [e] at h4
    by_cases q : n = m
    · subst q
      have hl : n < st.length := by
        rcases Nat.lt_or_ge n st.length with q | q
        · exact q
        · rw [List.getElem?_eq_none q] at e; cases e
      rw [List.getElem?_set_self hl] at h4
      cases h4
    · rw [List.getElem?_set_ne q] at h4; exact ⟨m, zs, h3, h4⟩
theorem Ext.freeze {n : Nat} : Ext Z φ st H φ (freezeAt st n) H where
  pre := ⟨[], by simp⟩
  new := fun _ h n => absurd h n
  keep := fun b o h nl => ⟨h, fun q => nl (q.imp live_freeze id)⟩
  zk := fun _ _ => rfl
  isS := fun _ h => h
theorem freezeAt_length {n : Nat} : (freezeAt st n).length = st.length := by unfold freezeAt; split <;> simp
theorem freezeAt_get {n m : Nat} {c : Cell} (h : (freezeAt st n)[m]? = some c) : ∃ c', st[m]? = some c' ∧ c'.xs = c.xs := by
  unfold freezeAt at h
  cases e : st[n]? with
  | none => rw [e] at h; exact ⟨c, h, rfl⟩
  | some d =>
    rw [e] at h
    by_cases q : n = m
    · subst q
      have hl : n < st.length := by
        rcases Nat.lt_or_ge n st.length with q | q
        · exact q
        · rw [List.getElem?_eq_none q] at e; cases e
      rw [List.getElem?_set_self hl] at h
      cases h
      exact ⟨d, e, rfl⟩
    · rw [List.getElem?_set_ne q] at h; exact ⟨c, h, rfl⟩
theorem RelSt.freeze (S : RelSt K Z φ st H) {n : Nat} : RelSt K Z φ (freezeAt st n) H where
  len := by rw [freezeAt_length]; exact S.len
  nd := S.nd
  cell := fun m b c h3 h4 => by
    obtain ⟨c', h5, h6⟩ := freezeAt_get h4
    obtain ⟨ws, h7, h8⟩ := S.cell m b c' h3 h5
    exact ⟨ws, h7, h6 ▸ h8.ext Ext.freeze⟩
  res := S.res
/-- a frozen cell's list is plain data -/
theorem RelSt.frozen (S : RelSt K Z φ st H) {n : Nat} {c : Cell} {a : Addr} (h1 : φ[n]? = some a) (h2 : st[n]? = some c) : Rep K H (LvZ Z φ (freezeAt st n)) (.ref a) (.list c.xs) := by
  obtain ⟨us, h3, h4⟩ := S.cell n a c h1 h2
  refine .lst h3 ?_ (h4.ext Ext.freeze)
  rintro (⟨m, zs, h5, h6⟩ | z)
  · have q := nd_inj S.nd h1 h5
    subst q
    have hl : n < st.length := by
      rcases Nat.lt_or_ge n st.length with q | q
      · exact q
      · rw [List.getElem?_eq_none q] at h2; cases h2
    unfold freezeAt at h6
    rw [h2] at h6
    have h7 : (st.set n { c with live := false })[n]? = some ⟨true, zs⟩ := h6
    rw [List.getElem?_set_self hl] at h7
    cases h7
  · exact (S.res a z).1 (List.mem_of_getElem? h1)
end
end RL

set_option Elab.async false
set_option linter.all false
set_option maxRecDepth 100000
set_option maxHeartbeats 2000000
namespace RL
open PySem PySem.Spec PyProof.Rows L2
/-! ### outcomes -/
abbrev WD := Nat → D → (Addr → Prop) → List Addr → Sto → Hp → Prop
def Ok {α : Type} (K : PySem.W.Frag) (W : WD) (Z : Addr → Prop) (φ : List Addr) (st : Sto) (H : Hp) (r : R α) (P : α → List Addr → Sto → Hp → Prop) : Prop :=
  match r with
  | .ok a st' => ∀ φ' H', Ext Z φ st H φ' st' H' → RelSt K Z φ' st' H' → Good K H' → P a φ' st' H'
  | .ex c x st' => ∀ φ' H', Ext Z φ st H φ' st' H' → RelSt K Z φ' st' H' → Good K H' → W c x Z φ' st' H'
  | .no => False
section
variable {K : PySem.W.Frag} {W : WD} {Z : Addr → Prop} {φ φ' : List Addr} {st st' : Sto} {H H' : Hp} {α β : Type}
theorem Ok.imp {r : R α} {P P' : α → List Addr → Sto → Hp → Prop} (h : Ok K W Z φ st H r P) (k : ∀ a φ' st' H', Ext Z φ st H φ' st' H' → RelSt K Z φ' st' H' → Good K H' → P a φ' st' H' → P' a φ' st' H') : Ok K W Z φ st H r P' := by
  cases r with
  | ok a s => exact fun φ' H' e s' g => k a φ' s H' e s' g (h φ' H' e s' g)
  | ex c x s => exact h
  | no => exact h
theorem Ok.from (E : Ext Z φ st H φ' st' H') {r : R α} {P : α → List Addr → Sto → Hp → Prop} (h : Ok K W Z φ st H r P) : Ok K W Z φ' st' H' r P := by
  cases r with
  | ok a s => exact fun φ2 H2 e s' g => h φ2 H2 (E.trans e) s' g
  | ex c x s => exact fun φ2 H2 e s' g => h φ2 H2 (E.trans e) s' g
  | no => exact h
theorem Ok.bnd {m : M α} {f : α → M β} {P : β → List Addr → Sto → Hp → Prop} (h : Ok K W Z φ st H ((m >>= f) st) P) : Ok K W Z φ st H (m st) (fun a φ' st' H' => Ok K W Z φ' st' H' (f a st') P) := by
  have h : Ok K W Z φ st H (M.bnd m f st) P := h
  unfold M.bnd at h
  cases q : m st with
  | ok a s =>
    rw [q] at h
    exact fun φ' H' e s' g => Ok.from e h
  | ex c x s => rw [q] at h; exact h
  | no => rw [q] at h; exact h
theorem Ok.ret {a : α} {P : α → List Addr → Sto → Hp → Prop} (h : Ok K W Z φ st H ((pure a : M α) st) P) (S : RelSt K Z φ st H) (g : Good K H) : P a φ st H := h φ H .refl S g
theorem Ok.noEx {m : M α} {P : α → List Addr → Sto → Hp → Prop} (h : Ok K W Z φ st H (noEx m st) P) : Ok K (fun _ _ _ _ _ _ => False) Z φ st H (m st) P := by
  unfold RL.noEx at h
  cases q : m st with
  | ok a s => rw [q] at h; exact h
  | ex c x s => rw [q] at h; exact False.elim h
  | no => rw [q] at h; exact h
theorem Ok.noW {r : R α} {P : α → List Addr → Sto → Hp → Prop} (h : Ok K (fun _ _ _ _ _ _ => False) Z φ st H r P) : Ok K W Z φ st H r P := by
  cases r with
  | ok a s => exact h
  | ex c x s => exact fun φ' H' e s' g => (h φ' H' e s' g).elim
  | no => exact h
/-- reading steps that leave the store -/
theorem Ok.ofO {o : Option α} {P : α → List Addr → Sto → Hp → Prop} (h : Ok K W Z φ st H (ofO o st) P) (S : RelSt K Z φ st H) (g : Good K H) : ∃ a, o = some a ∧ P a φ st H := by
  cases o with
  | none => exact False.elim h
  | some a => exact ⟨a, rfl, Ok.ret h S g⟩
theorem Ok.look {v : Val} {P : D → List Addr → Sto → Hp → Prop} (h : Ok K W Z φ st H (lookM v st) P) (S : RelSt K Z φ st H) (g : Good K H) : ∃ x, look st v = some x ∧ P x φ st H := by
  unfold lookM at h
  cases q : RL.look st v with
  | none => rw [q] at h; exact False.elim h
  | some a => rw [q] at h; exact ⟨a, rfl, h φ H .refl S g⟩
theorem Ok.lookT {v : Val} {P : D → List Addr → Sto → Hp → Prop} (h : Ok K W Z φ st H (lookTM v st) P) (S : RelSt K Z φ st H) (g : Good K H) : ∃ x, lookT st v = some x ∧ P x φ st H := by
  unfold lookTM at h
  cases q : RL.lookT st v with
  | none => rw [q] at h; exact False.elim h
  | some a => rw [q] at h; exact ⟨a, rfl, h φ H .refl S g⟩
/-! ### values read -/
inductive Vw (K : PySem.W.Frag) (H : Hp) (L : Addr → Prop) : V → D → Prop
  | non : Vw K H L .non .none
  | bl (b : Bool) : Vw K H L (.bl b) (.bool b)
  | int (i : Int) : Vw K H L (.int i) (.int i)
  | str (x : Str) : Vw K H L (.str x) (.str x)
  | tup {a : Addr} {us : List V} {xs : List D} : Rep K H L (.ref a) (.tuple xs) → SqT K H a us → Reps K H L us xs → Vw K H L (.ref a) (.tuple xs)
  | lst {a : Addr} {us : List V} {xs : List D} : SqL K H a us → Reps K H L us xs → Vw K H L (.ref a) (.list xs)
theorem KTup.sq {a : Addr} {us : List V} (h : KTup K a us) : SqT K H a us := .inr h
theorem Rep.vw {L : Addr → Prop} {u : V} {x : D} (r : Rep K H L u x) : Vw K H L u x := by
  cases r with
  | non => exact .non
  | bl b => exact .bl b
  | int i => exact .int i
  | str x => exact .str x
  | tup h n r => exact .tup (.tup h n r) (SqT.of h) r
  | tupK h r => exact .tup (.tupK h r) h.sq r
  | lst h n r => exact .lst (SqL.of h) r
theorem look_vw (S : RelSt K Z φ st H) {u : V} {v : Val} {x : D} (r : RepV K Z φ st H u v) (h : look st v = some x) : Vw K H (LvZ Z φ st) u x := by
  cases r with
  | d r => cases h; exact r.vw
  | @r a n e =>
    have h : (st[n]?).map (fun c => PyData.list c.xs) = some x := h
    cases q : st[n]? with
    | none => rw [q] at h; cases h
    | some c =>
      rw [q] at h
      cases h
      obtain ⟨us, h1, h2⟩ := S.cell _ _ _ e q
      exact .lst (SqL.of h1) h2
  | s e n =>
    cases h
    exact .lst e.sq (Reps.ofInts _)
  | rs _ _ _ => cases h
  | g _ _ => cases h
theorem lookT_look {v : Val} {x : D} (h : lookT st v = some x) : look st v = some x := by
  cases v with
  | d x => exact h
  | r n => exact h
  | s ns => cases h
  | rs ns => cases h
  | g _ _ => cases h
theorem lookT_list (S : RelSt K Z φ st H) {u : V} {v : Val} {xs : List D} (r : RepV K Z φ st H u v) (h : lookT st v = some (.list xs)) : ∃ a us, u = .ref a ∧ H a = some (.lst us) ∧ Reps K H (LvZ Z φ st) us xs := by
  cases r with
  | d r =>
    cases h
    cases r with
    | lst h1 n r => exact ⟨_, _, rfl, h1, r⟩
  | @r a n e =>
    have h : (st[n]?).map (fun c => PyData.list c.xs) = some (PyData.list xs) := h
    cases q : st[n]? with
    | none => rw [q] at h; cases h
    | some c =>
      rw [q] at h
      cases h
      obtain ⟨us, h1, h2⟩ := S.cell _ _ _ e q
      exact ⟨_, us, rfl, h1, h2⟩
  | s e n => cases h
  | rs _ _ _ => cases h
  | g _ _ => cases h
mutual
theorem Rep.dp {L : Addr → Prop} : ∀ {u : V} {x : D}, Rep K H L u x → Dp K H u x
  | _, _, .non => .non
  | _, _, .bl b => .bl b
  | _, _, .int i => .int i
  | _, _, .str x => .str x
  | _, _, .tup h _ r => .tup (SqT.of h) (Reps.dp r)
  | _, _, .tupK h r => .tup h.sq (Reps.dp r)
  | _, _, .lst h _ r => .lst (SqL.of h) (Reps.dp r)
theorem Reps.dp {L : Addr → Prop} : ∀ {us : List V} {xs : List D}, Reps K H L us xs → DpAll K H us xs
  | _, _, .nil => .nil
  | _, _, .cons h r => .cons (Rep.dp h) (Reps.dp r)
end
theorem Vw.dp {L : Addr → Prop} {u : V} {x : D} (r : Vw K H L u x) : Dp K H u x := by
  cases r with
  | non => exact .non
  | bl b => exact .bl b
  | int i => exact .int i
  | str x => exact .str x
  | tup p h r => exact .tup h r.dp
  | lst h r => exact .lst h r.dp
/-- what is given back: data -/
def Give (K : PySem.W.Frag) (Z : Addr → Prop) (φ : List Addr) (st : Sto) (H : Hp) (z : D) (Q : VK) : Prop :=
  ∀ u H', Ext Z φ st H φ st H' → RelSt K Z φ st H' → Rep K H' (LvZ Z φ st) u z → Q u H'
theorem Give.here {z : D} {Q : VK} (g : Give K Z φ st H z Q) (S : RelSt K Z φ st H) {u : V} (r : Rep K H (LvZ Z φ st) u z) : Q u H := g u H .refl S r
theorem Give.lst {xs : List D} {Q : VK} (g : Give K Z φ st H (.list xs) Q) (S : RelSt K Z φ st H) {us : List V} (r : Reps K H (LvZ Z φ st) us xs) {p : Addr} (hp : H p = none) : Q (.ref p) (upd H p (.lst us)) :=
  g _ _ (Ext.laid S hp) (S.laid hp) (.lst upd_same (S.nlive hp) (r.ext (Ext.laid S hp)))
theorem Give.tup {xs : List D} {Q : VK} (g : Give K Z φ st H (.tuple xs) Q) (S : RelSt K Z φ st H) {us : List V} (r : Reps K H (LvZ Z φ st) us xs) {p : Addr} (hp : H p = none) : Q (.ref p) (upd H p (.tup us)) :=
  g _ _ (Ext.laid S hp) (S.laid hp) (.tup upd_same (S.nlive hp) (r.ext (Ext.laid S hp)))
end
/-! ### readings -/
section
variable (K : PySem.W.Frag) (W : WD)
def tE (m : Env → M Val) : TE := fun σ H Q => Good K H → ∃ Z φ ρ st, RelSt K Z φ st H ∧ RelE K Z φ st H ρ σ ∧ Ok K W Z φ st H (m ρ st) fun v φ' st' H' => ∀ u, RepV K Z φ' st' H' u v → Q u H'
def tT (m : Env → M Bool) : TT := fun σ H Q => Good K H → ∃ Z φ ρ st, RelSt K Z φ st H ∧ RelE K Z φ st H ρ σ ∧ Ok K W Z φ st H (m ρ st) fun b φ' st' H' => Q b H'
def tA (m : Env → M (List Val)) : TA := fun σ H Q => Good K H → ∃ Z φ ρ st, RelSt K Z φ st H ∧ RelE K Z φ st H ρ σ ∧ Ok K W Z φ st H (m ρ st) fun vs φ' st' H' => ∀ us, RepVs K Z φ' st' H' us vs → Q us H'
end
/-! ### every reading may lean on Good, ask for less -/
theorem Inv.good {X : Cx} {pins : List (Addr × Obj)} {σ : L2.St} {H : Hp} {s : Shared} (I : Inv X pins σ H s) : Good X.K H := fun a xs h => by
  rcases h with h | h
  · obtain ⟨_, _, _, z⟩ := I.list h; exact z
  · obtain ⟨_, _, _, z⟩ := I.tuple h; exact z
theorem PE.goes {X : Cx} {e : Expr} {t t' : TE} (h : PE X e t) (k : ∀ σ H (Q : VK), t' σ H Q → Good X.K H → t σ H fun u H1 => Good X.K H1 → Q u H1) : PE X e t' := by
  refine ⟨fun pins s σ H Q I q => ?_⟩
  exact thn (h.run pins s σ H _ I (k σ H Q q (Inv.good I))) fun u s1 ⟨x, H1, I1, r1, q1⟩ => ⟨x, H1, I1, r1, q1 (Inv.good I1)⟩
theorem PT.goes {X : Cx} {e : Expr} {t t' : TT} (h : PT X e t) (k : ∀ σ H (Q : Bool → Hp → Prop), t' σ H Q → Good X.K H → t σ H fun u H1 => Good X.K H1 → Q u H1) : PT X e t' := by
  refine ⟨fun pins s σ H Q I q => ?_⟩
  exact thn (h.run pins s σ H _ I (k σ H Q q (Inv.good I))) fun u s1 ⟨H1, I1, q1⟩ => ⟨H1, I1, q1 (Inv.good I1)⟩
theorem PW.goes {X : Cx} {e : Expr} {t t' : TT} (h : PW X e t) (k : ∀ σ H (Q : Bool → Hp → Prop), t' σ H Q → Good X.K H → t σ H fun u H1 => Good X.K H1 → Q u H1) : PW X e t' := by
  refine ⟨fun whole pins s σ H Q I q => ?_⟩
  exact thn (h.run whole pins s σ H _ I (k σ H Q q (Inv.good I))) fun u s1 ⟨H1, I1, q1⟩ => ⟨H1, I1, q1 (Inv.good I1)⟩
theorem PA.goes {X : Cx} {es : List Expr} {t t' : TA} (h : PA X es t) (k : ∀ σ H (Q : List V → Hp → Prop), t' σ H Q → Good X.K H → t σ H fun u H1 => Good X.K H1 → Q u H1) : PA X es t' := by
  refine ⟨fun pos pins s σ H Q I q => ?_⟩
  exact thn (h.run pos pins s σ H _ I (k σ H Q q (Inv.good I))) fun u s1 ⟨x, H1, I1, r1, q1⟩ => ⟨x, H1, I1, r1, q1 (Inv.good I1)⟩
abbrev DE (X : Cx) (W : WD) (e : Expr) (m : Env → M Val) : Prop := PE X e (tE X.K W m)
abbrev DT (X : Cx) (W : WD) (e : Expr) (m : Env → M Bool) : Prop := PT X e (tT X.K W m)
abbrev DA (X : Cx) (W : WD) (es : List Expr) (m : Env → M (List Val)) : Prop := PA X es (tA X.K W m)
section
variable {X : Cx} {W : WD} {a b c : Expr} {ma mb mc : Env → M Val} {pos : Pos}
/-- what one gets of a part -/
theorem tE_bnd {α : Type} {σ : L2.St} {H : Hp} {Z : Addr → Prop} {φ : List Addr} {ρ : Env} {st : Sto} {m : Env → M Val} {f : Val → M α} {P : α → List Addr → Sto → Hp → Prop} {Q : VK}
    (S : RelSt X.K Z φ st H) (E : RelE X.K Z φ st H ρ σ) (h : Ok X.K W Z φ st H ((m ρ >>= f) st) P)
    (k : ∀ v φ' st' H' u, Ext Z φ st H φ' st' H' → RelSt X.K Z φ' st' H' → RelE X.K Z φ' st' H' ρ σ → Good X.K H' → RepV X.K Z φ' st' H' u v → Ok X.K W Z φ' st' H' (f v st') P → Q u H') : tE X.K W m σ H Q :=
  fun _ => ⟨Z, φ, ρ, st, S, E, h.bnd.imp fun v φ' st' H' e S' g q u r => k v φ' st' H' u e S' (E.ext e) g r q⟩
theorem tT_bnd {α : Type} {σ : L2.St} {H : Hp} {Z : Addr → Prop} {φ : List Addr} {ρ : Env} {st : Sto} {m : Env → M Bool} {f : Bool → M α} {P : α → List Addr → Sto → Hp → Prop} {Q : Bool → Hp → Prop}
    (S : RelSt X.K Z φ st H) (E : RelE X.K Z φ st H ρ σ) (h : Ok X.K W Z φ st H ((m ρ >>= f) st) P)
    (k : ∀ v φ' st' H', Ext Z φ st H φ' st' H' → RelSt X.K Z φ' st' H' → RelE X.K Z φ' st' H' ρ σ → Good X.K H' → Ok X.K W Z φ' st' H' (f v st') P → Q v H') : tT X.K W m σ H Q :=
  fun _ => ⟨Z, φ, ρ, st, S, E, h.bnd.imp fun v φ' st' H' e S' g q => k v φ' st' H' e S' (E.ext e) g q⟩
theorem tA_bnd {α : Type} {σ : L2.St} {H : Hp} {Z : Addr → Prop} {φ : List Addr} {ρ : Env} {st : Sto} {m : Env → M (List Val)} {f : List Val → M α} {P : α → List Addr → Sto → Hp → Prop} {Q : List V → Hp → Prop}
    (S : RelSt X.K Z φ st H) (E : RelE X.K Z φ st H ρ σ) (h : Ok X.K W Z φ st H ((m ρ >>= f) st) P)
    (k : ∀ v φ' st' H' u, Ext Z φ st H φ' st' H' → RelSt X.K Z φ' st' H' → RelE X.K Z φ' st' H' ρ σ → Good X.K H' → RepVs X.K Z φ' st' H' u v → Ok X.K W Z φ' st' H' (f v st') P → Q u H') : tA X.K W m σ H Q :=
  fun _ => ⟨Z, φ, ρ, st, S, E, h.bnd.imp fun v φ' st' H' e S' g q u r => k v φ' st' H' u e S' (E.ext e) g r q⟩
theorem de_const {v : V} {x : D} (h : PE X a (tC v)) (r : ∀ H L, Rep X.K H L v x) : DE X W a (fun _ => pure (.d x)) :=
  PE.goes h fun σ H Q q g => by
    obtain ⟨Z, φ, ρ, st, S, E, ok⟩ := q g
    exact fun g' => ok.ret S g v (.d (r _ _))
theorem de_var {i : Nat} (h : PE X a (tVar i)) : DE X W a (fun ρ => getV ρ i) :=
  PE.goes h fun σ H Q q g => by
    obtain ⟨Z, φ, ρ, st, S, E, ok⟩ := q g
    cases e : ρ[i]? with
    | none => simp only [getV, e] at ok; exact False.elim ok
    | some o =>
      cases o with
      | none => simp only [getV, e] at ok; exact False.elim ok
      | some v =>
        simp only [getV, e] at ok
        obtain ⟨u, h1, h2⟩ := E.2 i v e
        exact ⟨u, h1, fun g' => ok.ret S g u h2⟩
/-- two parts, then an operation by values that leaves the store -/
theorem de_op2 {f : Value → Value → Sem Value} {r : R2} {op : Operator} (ho : OpR X (binaryOp op) r) (ha : DE X W a ma) (hb : DE X W b mb) {k : Val → Val → M Val}
    (hk : ∀ Z φ st H u w v v' (Q : VK), RelSt X.K Z φ st H → Good X.K H → RepV X.K Z φ st H u v → RepV X.K Z φ st H w v' → Ok X.K W Z φ st H (k v v' st) (fun z φ' st' H' => ∀ u, RepV X.K Z φ' st' H' u z → Q u H') → r u w H fun u H1 => Good X.K H1 → Q u H1) :
    DE X W (.BinOp a op b pos) (fun ρ => do let v ← ma ρ; let w ← mb ρ; k v w) :=
  PE.goes (pe_op ho ha hb) fun σ H Q q g => by
    obtain ⟨Z, φ, ρ, st, S, E, ok⟩ := q g
    refine tE_bnd S E ok fun v φ1 st1 H1 u e1 S1 E1 g1 r1 ok1 => ?_
    refine tE_bnd S1 E1 ok1 fun w φ2 st2 H2 u2 e2 S2 E2 g2 r2 ok2 => ?_
    exact hk Z φ2 st2 H2 u u2 v w Q S2 g2 (r1.ext e2) r2 ok2
end
end RL

set_option Elab.async false
set_option linter.all false
set_option maxRecDepth 100000
set_option maxHeartbeats 2000000
namespace RL
open PySem PySem.Spec PyProof.Rows L2
def BOp.to : BOp → Operator
  | .add => .Add | .sub => .Sub | .mul => .Mult | .fdiv => .FloorDiv | .mod => .Mod | .pow => .Pow
def COp.to : COp → CmpOp
  | .eq => .Eq | .ne => .NotEq | .lt => .Lt | .le => .LtE | .gt => .Gt | .ge => .GtE | .is => .Is | .isnot => .IsNot | .in_ => .In | .notin => .NotIn
/-- a tracked value's look -/
inductive TVw (K : PySem.W.Frag) (H : Hp) (L : Addr → Prop) : V → D → Prop
  | non : TVw K H L .non .none
  | bl (b : Bool) : TVw K H L (.bl b) (.bool b)
  | int (i : Int) : TVw K H L (.int i) (.int i)
  | str (x : Str) : TVw K H L (.str x) (.str x)
  | tup {a : Addr} {us : List V} {xs : List D} : Rep K H L (.ref a) (.tuple xs) → SqT K H a us → Reps K H L us xs → TVw K H L (.ref a) (.tuple xs)
  | lst {a : Addr} {us : List V} {xs : List D} : H a = some (.lst us) → Reps K H L us xs → TVw K H L (.ref a) (.list xs)
section
variable {K : PySem.W.Frag} {W : WD} {Z : Addr → Prop} {φ φ' : List Addr} {st st' : Sto} {H H' : Hp}
theorem lookT_tvw (S : RelSt K Z φ st H) {u : V} {v : Val} {x : D} (r : RepV K Z φ st H u v) (h : lookT st v = some x) : TVw K H (LvZ Z φ st) u x := by
  cases r with
  | d r =>
    cases h
    cases r with
    | non => exact .non
    | bl b => exact .bl b
    | int i => exact .int i
    | str x => exact .str x
    | tup h n r => exact .tup (.tup h n r) (SqT.of h) r
    | tupK h r => exact .tup (.tupK h r) h.sq r
    | lst h n r => exact .lst h r
  | @r a n e =>
    have h : (st[n]?).map (fun c => PyData.list c.xs) = some x := h
    cases q : st[n]? with
    | none => rw [q] at h; cases h
    | some c =>
      rw [q] at h
      cases h
      obtain ⟨us, h1, h2⟩ := S.cell _ _ _ e q
      exact .lst h1 h2
  | s e n => cases h
  | rs _ _ _ => cases h
  | g _ _ => cases h
end
/-- text * n -/
theorem op_repS {X : Cx} : OpR X (binaryOp .Mult) (fun x y H Q => ∃ (a : Str) (k : Int), x = .str a ∧ y = .int k ∧ 2 ≤ k ∧ k ≤ 1000 ∧ 1 ≤ a.length ∧ a.length ≤ 1000 ∧ Q (.str ⟨(List.replicate k.toNat a.cps).foldl (· ++ ·) #[]⟩) H) := by
  intro pins s σ H x y v u Q I rx ry h
  obtain ⟨a, k, rfl, rfl, h1, h2, h3, h4, q⟩ := h
  obtain ⟨t, rfl⟩ := rx
  obtain ⟨t', rfl⟩ := ry
  have hl : a.length * k.toNat ≤ sizeLine := by
    have : a.length * k.toNat ≤ 1000 * 1000 := Nat.mul_le_mul h4 (by omega)
    exact Nat.le_trans this (by decide)
  have len : ∀ (n : Nat) (acc : Array Nat), ((List.replicate n a.cps).foldl (· ++ ·) acc).size = acc.size + n * a.cps.size := by
    intro n
    induction n with
    | zero => intro acc; simp
    | succ n ih => intro acc; rw [List.replicate_succ, List.foldl_cons, ih, Array.size_append, Nat.succ_mul]; omega
  refine P.mul_str (by rw [decide_eq_false (by omega), decide_eq_false (by omega)]; rfl) (fun _ _ hh => ?_) (fun _ _ => ?_) ?_
  · have hk : (0 : Int) < k := by omega
    have e3 : (1000 : Int) ≤ (2 ^ 63 - 1) / k := Int.le_ediv_of_mul_le hk (by omega)
    have e4 : (a.length : Int) ≤ 1000 := by omega
    omega
  · show decide _ = false
    rw [decide_eq_false (by omega)]
  · rw [if_neg (by omega), if_neg (by simp; omega)]
    refine ⟨?_, .str _, H, I.tok _, ⟨_, rfl⟩, q⟩
    show ((List.replicate k.toNat a.cps).foldl (· ++ ·) #[]).size ≤ _
    rw [len]
    have : a.length = a.cps.size := rfl
    simp only [Array.size_empty, Nat.zero_add]
    rw [Nat.mul_comm]; exact hl
def rBo (K : PySem.W.Frag) (o : BOp) : R2 := fun u w H Q => ∃ Z φ st x y z, RelSt K Z φ st H ∧ TVw K H (LvZ Z φ st) u x ∧ TVw K H (LvZ Z φ st) w y ∧ opB o x y = some z ∧ Give K Z φ st H z Q
theorem ifS {p : Prop} [Decidable p] {α : Type} {a b : α} (h : (if p then some a else none) = some b) : p ∧ a = b := by
  by_cases q : p
  · rw [if_pos q] at h; exact ⟨q, Option.some.inj h⟩
  · rw [if_neg q] at h; cases h
theorem op_sound {X : Cx} (o : BOp) : OpR X (binaryOp o.to) (rBo X.K o) := by
  rintro pins s σ H u w v v' Q I ru rw' ⟨Z, φ, st, x, y, z, S, hx, hy, hz, g⟩
  cases o with
  | add =>
    cases hx with
    | int i =>
      cases hy <;> (try cases hz)
      exact op_add pins s σ H _ _ v v' Q I ru rw' ⟨_, _, rfl, rfl, g.here S (.int _)⟩
    | str a =>
      cases hy <;> (try cases hz)
      obtain ⟨h1, rfl⟩ := ifS hz
      exact op_add_str pins s σ H _ _ v v' Q I ru rw' ⟨_, _, rfl, rfl, h1, g.here S (.str _)⟩
    | lst h1 r1 =>
      cases hy <;> (try cases hz)
      rename_i h2 r2
      obtain ⟨h3, rfl⟩ := ifS hz
      refine op_cat pins s σ H _ _ v v' Q I ru rw' ⟨_, _, _, _, rfl, rfl, h1, h2, ?_, fun p hp => g.lst S (r1.app r2) hp⟩
      rw [r1.length, r2.length]; exact h3
    | tup p1 h1 r1 =>
      cases hy <;> (try cases hz)
      rename_i h2 p2 r2
      obtain ⟨h4, rfl⟩ := ifS hz
      refine op_catA pins s σ H _ _ v v' Q I ru rw' ⟨_, _, _, _, rfl, rfl, h1, p2, ?_, fun e => ?_, fun _ e => ?_, fun _ _ p hp => g.tup S (r1.app r2) hp⟩
      · rw [r1.length, r2.length]; exact h4
      · subst e; cases r1; exact g.here S h2
      · subst e; cases r2; rw [List.append_nil] at g; exact g.here S p1
    | _ => cases hy <;> cases hz
  | sub =>
    cases hx with
    | int i =>
      cases hy <;> (try cases hz)
      exact op_sub pins s σ H _ _ v v' Q I ru rw' ⟨_, _, rfl, rfl, g.here S (.int _)⟩
    | _ => cases hy <;> cases hz
  | mul =>
    cases hx with
    | int i =>
      cases hy <;> (try cases hz)
      obtain ⟨h1, rfl⟩ := ifS hz
      exact op_mul pins s σ H _ _ v v' Q I ru rw' ⟨_, _, rfl, rfl, h1, g.here S (.int _)⟩
    | str a =>
      cases hy <;> (try cases hz)
      obtain ⟨⟨h1, h2, h3, h4⟩, rfl⟩ := ifS hz
      exact op_repS pins s σ H _ _ v v' Q I ru rw' ⟨_, _, rfl, rfl, h1, h2, h3, h4, g.here S (.str _)⟩
    | lst h1 r1 =>
      cases hy <;> (try cases hz)
      obtain ⟨⟨h2, h3, h4⟩, rfl⟩ := ifS hz
      refine op_rep pins s σ H _ _ v v' Q I ru rw' ⟨_, _, _, rfl, rfl, h1, h2, h3, ?_, fun p hp => g.lst S (r1.rep _) hp⟩
      rw [r1.length]; exact h4
    | tup p1 h1 r1 =>
      cases hy <;> (try cases hz)
      obtain ⟨⟨h3, h4, h5⟩, rfl⟩ := ifS hz
      refine op_repA pins s σ H _ _ v v' Q I ru rw' ⟨_, _, _, rfl, rfl, h1, h3, h4, ?_, fun e => ?_, fun _ p hp => g.tup S (r1.rep _) hp⟩
      · rw [r1.length]; exact h5
      · rcases e with e | e
        · subst e
          cases r1
          have e2 : ∀ n : Nat, (List.replicate n ([] : List D)).flatten = [] := fun n => by simp
          rw [e2] at g
          exact g.here S p1
        · subst e
          have e2 : ∀ l : List D, (List.replicate (1 : Int).toNat l).flatten = l := fun l => by simp
          rw [e2] at g
          exact g.here S p1
    | _ => cases hy <;> cases hz
  | fdiv =>
    cases hx with
    | int i =>
      cases hy <;> (try cases hz)
      obtain ⟨h1, rfl⟩ := ifS hz
      exact op_fdiv pins s σ H _ _ v v' Q I ru rw' ⟨_, _, rfl, rfl, h1, g.here S (.int _)⟩
    | _ => cases hy <;> cases hz
  | mod =>
    cases hx with
    | int i =>
      cases hy <;> (try cases hz)
      obtain ⟨h1, rfl⟩ := ifS hz
      exact op_mod pins s σ H _ _ v v' Q I ru rw' ⟨_, _, rfl, rfl, h1, g.here S (.int _)⟩
    | _ => cases hy <;> cases hz
  | pow =>
    cases hx with
    | int i =>
      cases hy <;> (try cases hz)
      obtain ⟨h1, rfl⟩ := ifS hz
      exact op_pow pins s σ H _ _ v v' Q I ru rw' ⟨_, _, rfl, rfl, h1, g.here S (.int _)⟩
    | _ => cases hy <;> cases hz
/-! ### comparisons -/
def rCo (K : PySem.W.Frag) (o : COp) : R2 := fun u w H Q => ∃ Z φ st x y z, RelSt K Z φ st H ∧ Vw K H (LvZ Z φ st) u x ∧ Vw K H (LvZ Z φ st) w y ∧ opC o x y = some z ∧ Q (.bl z) H
theorem eq_scal {K : PySem.W.Frag} {H : Hp} {L : Addr → Prop} {u w : V} {x y : D} (hx : Vw K H L u x) (hy : Vw K H L w y) (k : sameKind x y = true) : scal u w = true ∧ decide (u = w) = PyData.eqv x y := by
  cases hx <;> cases hy <;> first
    | exact absurd k Bool.false_ne_true
    | exact ⟨rfl, dec_int⟩
    | exact ⟨rfl, dec_bl⟩
    | exact ⟨rfl, dec_str⟩
    | (refine ⟨rfl, ?_⟩; simp [PyData.eqv])
theorem eq_sound {X : Cx} (hu : X.A.units + 64 < cLine) : OpR X (compareOp .Eq) (rCo X.K .eq) := by
  rintro pins s σ H u w v v' Q I ru rw' ⟨Z, φ, st, x, y, z, S, hx, hy, hz, g⟩
  have hz : eqD x y = some z := hz
  unfold eqD at hz
  by_cases k : sameKind x y = true
  · rw [if_pos k] at hz
    obtain ⟨e1, e2⟩ := eq_scal hx hy k
    refine op_eq pins s σ H u w v v' Q I ru rw' ⟨e1, ?_⟩
    rw [e2, Option.some.inj hz]; exact g
  · rw [if_neg k] at hz
    obtain ⟨⟨h1, h2⟩, h3⟩ := ifS hz
    refine op_eqD hu pins s σ H u w v v' Q I ru rw' ⟨x, y, hx.dp, hy.dp, h1, h2, ?_⟩
    rw [h3]; exact g
theorem ne_sound {X : Cx} (hu : X.A.units + 64 < cLine) : OpR X (compareOp .NotEq) (rCo X.K .ne) := by
  rintro pins s σ H u w v v' Q I ru rw' ⟨Z, φ, st, x, y, z, S, hx, hy, hz, g⟩
  have hz : (eqD x y).map (!·) = some z := hz
  obtain ⟨z', hq, e⟩ := Option.map_eq_some_iff.mp hz
  subst e
  unfold eqD at hq
  by_cases k : sameKind x y = true
  · rw [if_pos k] at hq
    obtain ⟨e1, e2⟩ := eq_scal hx hy k
    refine op_ne pins s σ H u w v v' Q I ru rw' ⟨e1, ?_⟩
    rw [e2, Option.some.inj hq]; exact g
  · rw [if_neg k] at hq
    obtain ⟨⟨h1, h2⟩, h3⟩ := ifS hq
    refine op_neD hu pins s σ H u w v v' Q I ru rw' ⟨x, y, hx.dp, hy.dp, h1, h2, ?_⟩
    rw [h3]; exact g
theorem eqV_flat {K : PySem.W.Frag} {H : Hp} {L : Addr → Prop} {u w : V} {x y : D} (hx : Rep K H L u x) (hy : Rep K H L w y) (fx : isFlat x = true) (fy : isFlat y = true) : eqV u w = PyData.eqv x y ∧ flatV u = true := by
  cases hx <;> first
    | exact absurd fx Bool.false_ne_true
    | (cases hy <;> first
        | exact absurd fy Bool.false_ne_true
        | (refine ⟨?_, rfl⟩; simp [eqV, PyData.eqv]))
theorem Vw.rep {K : PySem.W.Frag} {H : Hp} {L : Addr → Prop} {u : V} {x : D} (h : Vw K H L u x) (f : isFlat x = true) : Rep K H L u x := by
  cases h with
  | non => exact .non
  | bl b => exact .bl b
  | int i => exact .int i
  | str x => exact .str x
  | tup p h r => cases f
  | lst h r => cases f
theorem inV_flat {K : PySem.W.Frag} {H : Hp} {L : Addr → Prop} {u : V} {x : D} (hx : Rep K H L u x) (fx : isFlat x = true) : ∀ {us : List V} {xs : List D}, Reps K H L us xs → xs.all isFlat = true → (us.any fun y => eqV y u) = (xs.any fun z => PyData.eqv z x) ∧ us.all flatV = true
  | _, _, .nil, _ => ⟨rfl, rfl⟩
  | _, _, .cons (u := w) (x := y) h r, f => by
    rw [List.all_cons, Bool.and_eq_true] at f
    obtain ⟨e1, e2⟩ := eqV_flat h hx f.1 fx
    obtain ⟨e3, e4⟩ := inV_flat hx fx r f.2
    exact ⟨by rw [List.any_cons, List.any_cons, e1, e3], by rw [List.all_cons, e2, e4]; rfl⟩
theorem in_sound {X : Cx} (hu : X.A.units + 65 < cLine) : OpR X (compareOp .In) (rCo X.K .in_) := by
  rintro pins s σ H u w v v' Q I ru rw' ⟨Z, φ, st, x, y, z, S, hx, hy, hz, g⟩
  have hz : inD x y = some z := hz
  cases hy with
  | str b =>
    cases hx with
    | str a => cases hz; exact op_in_str pins s σ H _ _ v v' Q I ru rw' ⟨_, _, rfl, rfl, g⟩
    | _ => cases hz
  | lst h r =>
    obtain ⟨⟨h1, h2⟩, h3⟩ := ifS hz
    refine op_inD hu pins s σ H _ _ v v' Q I ru rw' ⟨x, _, hx.dp, .lst h r.dp, h1, h2, ?_⟩
    rw [h3]; exact g
  | tup p h r =>
    obtain ⟨⟨h1, h2⟩, h3⟩ := ifS hz
    obtain ⟨e1, e2⟩ := inV_flat (hx.rep h1) h1 r h2
    obtain ⟨_, e4⟩ := eqV_flat (hx.rep h1) (hx.rep h1) h1 h1
    refine op_in_seq pins s σ H _ _ v v' Q I ru rw' ⟨_, _, rfl, .inr h, e4, e2, ?_⟩
    rw [if_neg Bool.false_ne_true]
    unfold inV
    rw [e1, h3]; exact g
  | _ => cases hz
theorem notin_sound {X : Cx} (hu : X.A.units + 65 < cLine) : OpR X (compareOp .NotIn) (rCo X.K .notin) := by
  rintro pins s σ H u w v v' Q I ru rw' ⟨Z, φ, st, x, y, z, S, hx, hy, hz, g⟩
  have hz : (inD x y).map (!·) = some z := hz
  obtain ⟨z', hq, e⟩ := Option.map_eq_some_iff.mp hz
  subst e
  cases hy with
  | str b =>
    cases hx with
    | str a => cases hq; exact op_notin_str pins s σ H _ _ v v' Q I ru rw' ⟨_, _, rfl, rfl, g⟩
    | _ => cases hq
  | lst h r =>
    obtain ⟨⟨h1, h2⟩, h3⟩ := ifS hq
    refine op_notInD hu pins s σ H _ _ v v' Q I ru rw' ⟨x, _, hx.dp, .lst h r.dp, h1, h2, ?_⟩
    rw [h3]; exact g
  | tup p h r =>
    obtain ⟨⟨h1, h2⟩, h3⟩ := ifS hq
    obtain ⟨e1, e2⟩ := inV_flat (hx.rep h1) h1 r h2
    obtain ⟨_, e4⟩ := eqV_flat (hx.rep h1) (hx.rep h1) h1 h1
    refine op_notIn_seq pins s σ H _ _ v v' Q I ru rw' ⟨_, _, rfl, .inr h, e4, e2, ?_⟩
    rw [if_pos rfl]
    unfold inV
    rw [e1, h3]; exact g
  | _ => cases hq
theorem isNone_iff {K : PySem.W.Frag} {H : Hp} {L : Addr → Prop} {u : V} {x : D} (h : Vw K H L u x) : decide (u = .non) = isNone x := by
  cases h <;> simp [isNone]
theorem isB_iff {K : PySem.W.Frag} {H : Hp} {L : Addr → Prop} {u : V} {x : D} (b : Bool) (h : Vw K H L u x) : decide (u = .bl b) = isB b x := by
  cases h with
  | bl c => cases c <;> cases b <;> simp [isB]
  | _ => simp [isB]
theorem cmp_sound {X : Cx} (hu : X.A.units + 65 < cLine) (o : COp) : OpR X (compareOp o.to) (rCo X.K o) := by
  cases o with
  | eq => exact eq_sound (by omega)
  | ne => exact ne_sound (by omega)
  | in_ => exact in_sound hu
  | notin => exact notin_sound hu
  | is =>
    rintro pins s σ H u w v v' Q I ru rw' ⟨Z, φ, st, x, y, z, S, hx, hy, hz, g⟩
    cases hy with
    | non =>
      have hz : some (isNone x) = some z := by cases hx <;> exact hz
      refine op_isN pins s σ H _ _ v v' Q I ru rw' ⟨rfl, ?_⟩
      rw [isNone_iff hx, Option.some.inj hz]; exact g
    | bl b =>
      have hz : some (isB b x) = some z := by cases hx <;> exact hz
      refine op_isB pins s σ H _ _ v v' Q I ru rw' ⟨b, rfl, ?_⟩
      rw [isB_iff b hx, Option.some.inj hz]; exact g
    | _ => cases hx <;> cases hz
  | isnot =>
    rintro pins s σ H u w v v' Q I ru rw' ⟨Z, φ, st, x, y, z, S, hx, hy, hz, g⟩
    cases hy with
    | non =>
      have hz : some (!isNone x) = some z := by cases hx <;> exact hz
      refine op_notN pins s σ H _ _ v v' Q I ru rw' ⟨rfl, ?_⟩
      rw [isNone_iff hx, Option.some.inj hz]; exact g
    | bl b =>
      have hz : some (!isB b x) = some z := by cases hx <;> exact hz
      refine op_notB pins s σ H _ _ v v' Q I ru rw' ⟨b, rfl, ?_⟩
      rw [isB_iff b hx, Option.some.inj hz]; exact g
    | _ => cases hx <;> cases hz
  | lt =>
    rintro pins s σ H u w v v' Q I ru rw' ⟨Z, φ, st, x, y, z, S, hx, hy, hz, g⟩
    cases hx <;> cases hy <;> (try (cases hz; done))
    · cases hz; exact op_lt pins s σ H _ _ v v' Q I ru rw' ⟨_, _, rfl, rfl, g⟩
    · cases hz; exact op_lt_str pins s σ H _ _ v v' Q I ru rw' ⟨_, _, rfl, rfl, g⟩
  | le =>
    rintro pins s σ H u w v v' Q I ru rw' ⟨Z, φ, st, x, y, z, S, hx, hy, hz, g⟩
    cases hx <;> cases hy <;> (try (cases hz; done))
    · cases hz; exact op_le pins s σ H _ _ v v' Q I ru rw' ⟨_, _, rfl, rfl, g⟩
    · cases hz; exact op_le_str pins s σ H _ _ v v' Q I ru rw' ⟨_, _, rfl, rfl, g⟩
  | gt =>
    rintro pins s σ H u w v v' Q I ru rw' ⟨Z, φ, st, x, y, z, S, hx, hy, hz, g⟩
    cases hx <;> cases hy <;> (try (cases hz; done))
    · cases hz; exact op_gt pins s σ H _ _ v v' Q I ru rw' ⟨_, _, rfl, rfl, g⟩
    · cases hz; exact op_gt_str pins s σ H _ _ v v' Q I ru rw' ⟨_, _, rfl, rfl, g⟩
  | ge =>
    rintro pins s σ H u w v v' Q I ru rw' ⟨Z, φ, st, x, y, z, S, hx, hy, hz, g⟩
    cases hx <;> cases hy <;> (try (cases hz; done))
    · cases hz; exact op_ge pins s σ H _ _ v v' Q I ru rw' ⟨_, _, rfl, rfl, g⟩
    · cases hz; exact op_ge_str pins s σ H _ _ v v' Q I ru rw' ⟨_, _, rfl, rfl, g⟩
/-! ### truth -/
theorem tru_sound {K : PySem.W.Frag} {H : Hp} {L : Addr → Prop} {u : V} {x : D} {b : Bool} (h : Vw K H L u x) (e : truD x = some b) : TruV K u H b := by
  cases h with
  | non => cases e; rfl
  | bl b => cases e; rfl
  | int i => cases e; rfl
  | str x => obtain ⟨h1, h2⟩ := ifS e; exact ⟨h1, h2.symm⟩
  | tup p h r =>
    cases e
    refine .inr (.inl ⟨_, h, ?_⟩)
    cases r <;> rfl
  | lst h r =>
    cases e
    refine .inl ⟨_, h, ?_⟩
    cases r <;> rfl
end RL

set_option Elab.async false
set_option linter.all false
set_option maxRecDepth 100000
set_option maxHeartbeats 2000000
namespace RL
open PySem PySem.Spec PyProof.Rows L2
/-! ### the text's names -/
structure Wor where
  par : List (List Str) := []
  fns : List Str
  glb : List Str
  exc : List (Str × Str) := []
structure Gam where
  N : List Str
  sc : Scope
  raw : Scope
def look? (sc : Scope) (x : Str) : Option NameKind := sc.names.lookup x
def visB (sc : Scope) (x : Str) : Bool := match sc.names.lookup x with
  | some .local | some .cell | some .free => true
  | _ => false
def glB (sc : Scope) (x : Str) : Bool := match sc.names.lookup x with
  | some .globalImplicit => true
  | _ => false
def storeB (Γ : Gam) (x : Str) : Bool := match Γ.raw.names.lookup x with
  | some .local | some .cell => true
  | _ => false
def eqS (x y : Str) : Bool := decide (x = y)
theorem eqS_ok {x y : Str} (h : eqS x y = true) : x = y := of_decide_eq_true h
def notStar : Expr → Bool
  | .Starred _ _ => false
  | _ => true
theorem star_ns {e : Expr} (h : notStar e = true) (es : List Expr) (env : PySem.Env) : starEach (e :: es) env = (false, eval e env) :: starEach es env := by
  cases e <;> first | rfl | exact absurd h Bool.false_ne_true
def allNS (es : List Expr) : Bool := es.all notStar
theorem star_all : ∀ {es : List Expr} (h : allNS es = true) (env : PySem.Env), starEach es env = es.map fun e => (false, eval e env)
  | [], _, _ => rfl
  | e :: es, h, env => by
    have h := Bool.and_eq_true_iff.mp (show (notStar e && allNS es) = true from h)
    rw [star_ns h.1, star_all h.2]; rfl
theorem back_any {es : List Expr} (h : allNS es = true) (pos : Pos) (env : PySem.Env) : (backTo pos (starEach es env)).any (·.1) = false := by
  rw [star_all h]
  induction es with
  | nil => rfl
  | cons e es ih =>
    have h := Bool.and_eq_true_iff.mp (show (notStar e && allNS es) = true from h)
    exact ih h.2
/-- the receiver of an attribute is read as it is -/
def plainBase : Expr → Bool
  | .Call (.Name _ _) [] [] _ => false
  | _ => true
theorem base_ok {o : Expr} (h : plainBase o = true) (f : Str) (env : PySem.Env) (w : Sem Value) : attributeBase o f env w = w := by
  unfold attributeBase
  split
  · exact absurd h Bool.false_ne_true
  · rfl
/-! ### built-ins' names -/
inductive BV where
  | blt (id : String) | typ (id : String)
def Bi.val : Bi → BV
  | .len => .blt "len" | .all => .blt "all" | .any => .blt "any" | .sum => .blt "sum" | .max1 => .blt "max" | .min1 => .blt "min" | .max2 => .blt "max" | .min2 => .blt "min"
  | .abs => .blt "abs" | .int => .typ "int" | .tuple => .typ "tuple" | .list => .typ "list" | .divmod => .blt "divmod" | .sorted => .blt "sorted" | .strOf => .typ "str"
def BV.v : BV → Value
  | .blt id => .builtin id
  | .typ id => .type id
def BV.name : BV → String
  | .blt id => id
  | .typ id => id
def Ty.name : Ty → String
  | .int => "int" | .str => "str" | .bool => "bool" | .tuple => "tuple" | .list => "list" | .dict => "dict"
def bltNames : List Str := ["len", "all", "any", "sum", "max", "min", "abs", "int", "tuple", "list", "divmod", "sorted", "str", "range", "enumerate", "zip", "isinstance", "bool", "dict", "reversed", "set"]
inductive Vws (K : PySem.W.Frag) (H : Hp) (L : Addr → Prop) : List V → List D → Prop
  | nil : Vws K H L [] []
  | cons {u : V} {us : List V} {x : D} {xs : List D} : Vw K H L u x → Vws K H L us xs → Vws K H L (u :: us) (x :: xs)
def rBi (K : PySem.W.Frag) (b : Bi) : List V → Hp → VK → Prop := fun us H Q => ∃ Z φ st xs z, RelSt K Z φ st H ∧ Good K H ∧ Vws K H (LvZ Z φ st) us xs ∧ biD b xs = some z ∧ Give K Z φ st H z Q
/-- one sorted list -/
theorem sort_one_int {ns ms : List Int} (p : ms.Perm ns) (s : ms.Pairwise (· ≤ ·)) : ms = ns.mergeSort fun a b => decide (a ≤ b) := by
  have q := List.mergeSort_perm ns fun a b => decide (a ≤ b)
  have s2 : (ns.mergeSort fun a b => decide (a ≤ b)).Pairwise (fun a b => decide (a ≤ b) = true) := List.pairwise_mergeSort (fun a b c h1 h2 => by simp at *; omega) (fun a b => by simp; omega) ns
  have s2 : (ns.mergeSort fun a b => decide (a ≤ b)).Pairwise (· ≤ ·) := s2.imp fun h => of_decide_eq_true h
  exact List.Perm.eq_of_pairwise (fun a b _ _ h1 h2 => Int.le_antisymm h1 h2) s s2 (p.trans q.symm)
theorem cps_ext {a b : Str} (h : a.cps.toList = b.cps.toList) : a = b := by
  cases a; cases b
  simp at h
  rw [h]
theorem leS_iff {a b : Str} : leS a b = true ↔ a.cps.toList ≤ b.cps.toList := by
  unfold leS
  rw [Bool.not_eq_true', decide_eq_false_iff_not]
  exact List.not_lt
end RL

set_option Elab.async false
set_option linter.all false
set_option maxRecDepth 100000
set_option maxHeartbeats 2000000
namespace RL
open PySem PySem.Spec PyProof.Rows L2
section
variable {K : PySem.W.Frag} {H : Hp} {L : Addr → Prop}
theorem Vws.one {us : List V} {x : D} (h : Vws K H L us [x]) : ∃ u, us = [u] ∧ Vw K H L u x := by
  cases h with
  | cons h r => cases r; exact ⟨_, rfl, h⟩
theorem Vws.two {us : List V} {x y : D} (h : Vws K H L us [x, y]) : ∃ u w, us = [u, w] ∧ Vw K H L u x ∧ Vw K H L w y := by
  cases h with
  | cons h r => cases r with
    | cons h2 r2 => cases r2; exact ⟨_, _, rfl, h, h2⟩
theorem Vws.ones {us : List V} {xs : List D} (h : Vws K H L us xs) : us.length = xs.length := by
  induction h with
  | nil => rfl
  | cons _ _ ih => simp [ih]
theorem Vw.int_ {u : V} {i : Int} (h : Vw K H L u (.int i)) : u = .int i := by cases h; rfl
theorem Vw.str_ {u : V} {z : Str} (h : Vw K H L u (.str z)) : u = .str z := by cases h; rfl
theorem Vw.bl_ {u : V} {z : Bool} (h : Vw K H L u (.bool z)) : u = .bl z := by cases h; rfl
theorem Vw.lst_ {u : V} {xs : List D} (h : Vw K H L u (.list xs)) : ∃ a us, u = .ref a ∧ SqL K H a us ∧ Reps K H L us xs := by
  cases h with
  | lst h r => exact ⟨_, _, rfl, h, r⟩
theorem Vw.tup_ {u : V} {xs : List D} (h : Vw K H L u (.tuple xs)) : ∃ a us, u = .ref a ∧ SqT K H a us ∧ Reps K H L us xs := by
  cases h with
  | tup p h r => exact ⟨_, _, rfl, h, r⟩
end
theorem maxI_mem : ∀ (a : Int) (r : List Int), maxI a r ∈ a :: r ∧ ∀ y ∈ a :: r, y ≤ maxI a r
  | a, [] => ⟨by simp [maxI], by simp [maxI]⟩
  | a, b :: r => by
    have q := maxI_mem (if b > a then b else a) r
    refine ⟨?_, fun y hy => ?_⟩
    · show maxI (if b > a then b else a) r ∈ _
      rcases List.mem_cons.mp q.1 with e | e
      · rw [e]; split <;> simp
      · simp [e]
    · show y ≤ maxI (if b > a then b else a) r
      have h1 := q.2 (if b > a then b else a) (by simp)
      rcases List.mem_cons.mp hy with e | hy
      · subst e; split at h1 <;> (try split) <;> omega
      · rcases List.mem_cons.mp hy with e | hy
        · subst e; split at h1 <;> (try split) <;> omega
        · exact q.2 y (List.mem_cons_of_mem _ hy)
theorem minI_mem : ∀ (a : Int) (r : List Int), minI a r ∈ a :: r ∧ ∀ y ∈ a :: r, minI a r ≤ y
  | a, [] => ⟨by simp [minI], by simp [minI]⟩
  | a, b :: r => by
    have q := minI_mem (if b < a then b else a) r
    refine ⟨?_, fun y hy => ?_⟩
    · show minI (if b < a then b else a) r ∈ _
      rcases List.mem_cons.mp q.1 with e | e
      · rw [e]; split <;> simp
      · simp [e]
    · show minI (if b < a then b else a) r ≤ y
      have h1 := q.2 (if b < a then b else a) (by simp)
      rcases List.mem_cons.mp hy with e | hy
      · subst e; split at h1 <;> (try split) <;> omega
      · rcases List.mem_cons.mp hy with e | hy
        · subst e; split at h1 <;> (try split) <;> omega
        · exact q.2 y (List.mem_cons_of_mem _ hy)
theorem rising_pw : ∀ (p : Str) (xs : List Str), risingS p xs = true → (p :: xs).Pairwise fun a b => leS a b = true
  | p, [], _ => by simp
  | p, x :: r, h => by
    have h : (!ltCps x.cps.toList p.cps.toList && risingS x r) = true := h
    rw [Bool.and_eq_true, Bool.not_eq_true', ltCps_eq, decide_eq_false_iff_not] at h
    have ih := rising_pw x r h.2
    have h1 : leS p x = true := leS_iff.mpr (List.not_lt.mp h.1)
    refine List.pairwise_cons.mpr ⟨fun y hy => ?_, ih⟩
    rcases List.mem_cons.mp hy with e | hy
    · rw [e]; exact h1
    · have h2 := (List.pairwise_cons.mp ih).1 y hy
      exact leS_iff.mpr (List.le_trans (leS_iff.mp h1) (leS_iff.mp h2))
theorem sortedS_pw {xs : List Str} (h : sortedS xs = true) : xs.Pairwise fun a b => leS a b = true := by
  cases xs with
  | nil => simp
  | cons x r => exact rising_pw x r h
theorem leS_total (a b : Str) : (leS a b || leS b a) = true := by
  rcases List.le_total a.cps.toList b.cps.toList with h | h
  · rw [leS_iff.mpr h]; rfl
  · rw [leS_iff.mpr h]; simp
theorem sort_one_str {ns ms : List Str} (p : ms.Perm ns) (s : sortedS ms = true) : ms = ns.mergeSort leS := by
  have q := List.mergeSort_perm ns leS
  have s2 : (ns.mergeSort leS).Pairwise (fun a b => leS a b = true) := List.pairwise_mergeSort (le := leS) (fun a b c h1 h2 => leS_iff.mpr (List.le_trans (leS_iff.mp h1) (leS_iff.mp h2)))
    leS_total ns
  exact List.Perm.eq_of_pairwise (fun a b _ _ h1 h2 => cps_ext (List.le_antisymm (leS_iff.mp h1) (leS_iff.mp h2))) (sortedS_pw s) s2 (p.trans q.symm)
theorem Reps.map {K : PySem.W.Frag} {H : Hp} {L : Addr → Prop} {α : Type} {f : α → V} {g : α → D} (h : ∀ a, Rep K H L (f a) (g a)) : ∀ l : List α, Reps K H L (l.map f) (l.map g)
  | [] => .nil
  | a :: l => .cons (h a) (Reps.map h l)
theorem rg_reps {K : PySem.W.Frag} {H : Hp} {L : Addr → Prop} (a b : Int) : Reps K H L (rgV a b) (rgD a b) := Reps.map (fun _ => .int _) _
theorem b1_some {f : D → Option D} {xs : List D} {z : D} (h : b1 f xs = some z) : ∃ x, xs = [x] ∧ f x = some z := by
  unfold b1 at h
  split at h
  · exact ⟨_, rfl, h⟩
  · cases h
theorem b2_some {f : D → D → Option D} {xs : List D} {z : D} (h : b2 f xs = some z) : ∃ x y, xs = [x, y] ∧ f x y = some z := by
  unfold b2 at h
  split at h
  · exact ⟨_, _, rfl, h⟩
  · cases h
theorem bi_sound {X : Cx} (hc : X.calm = true) (b : Bi) : CallR X b.val.v (rBi X.K b) := by
  rintro pins s σ H us vs Q I r ⟨Z, φ, st, xs, z, S, gd, hv, hz, g⟩
  cases b with
  | len =>
    obtain ⟨x, rfl, hz⟩ := b1_some hz
    obtain ⟨u, rfl, hx⟩ := hv.one
    refine call_len pins s σ H _ vs Q I r ?_
    cases hx with
    | str y =>
      obtain ⟨h1, rfl⟩ := ifS hz
      exact ⟨_, _, rfl, ⟨h1, rfl⟩, g.here S (.int _)⟩
    | tup p h r' => cases hz; exact ⟨_, _, rfl, .inr ⟨_, h, (Reps.length r').symm⟩, g.here S (.int _)⟩
    | lst h r' => cases hz; exact ⟨_, _, rfl, .inl ⟨_, h, (Reps.length r').symm⟩, g.here S (.int _)⟩
    | _ => cases hz
  | all =>
    obtain ⟨x, rfl, hz⟩ := b1_some hz
    obtain ⟨u, rfl, hx⟩ := hv.one
    cases hx with
    | lst h r' =>
      obtain ⟨bs, e1, rfl⟩ := Option.map_eq_some_iff.mp hz
      rw [boolsD_some e1] at r'
      rw [r'.bools] at h
      exact cr_all hc pins s σ H _ vs Q I r ⟨_, bs, rfl, h, g.here S (.bl _)⟩
    | _ => cases hz
  | any =>
    obtain ⟨x, rfl, hz⟩ := b1_some hz
    obtain ⟨u, rfl, hx⟩ := hv.one
    cases hx with
    | lst h r' =>
      obtain ⟨bs, e1, rfl⟩ := Option.map_eq_some_iff.mp hz
      rw [boolsD_some e1] at r'
      rw [r'.bools] at h
      exact cr_any hc pins s σ H _ vs Q I r ⟨_, bs, rfl, h, g.here S (.bl _)⟩
    | _ => cases hz
  | sum =>
    obtain ⟨x, rfl, hz⟩ := b1_some hz
    obtain ⟨u, rfl, hx⟩ := hv.one
    cases hx with
    | lst h r' =>
      obtain ⟨bs, e1, rfl⟩ := Option.map_eq_some_iff.mp hz
      rw [intsD_some e1] at r'
      rw [r'.ints] at h
      exact cr_sum hc pins s σ H _ vs Q I r ⟨_, bs, rfl, h, g.here S (.int _)⟩
    | _ => cases hz
  | max1 =>
    obtain ⟨x, rfl, hz⟩ := b1_some hz
    obtain ⟨u, rfl, hx⟩ := hv.one
    cases hx with
    | lst h r' =>
      obtain ⟨bs, e1, hz⟩ := Option.bind_eq_some_iff.mp hz
      rw [intsD_some e1] at r'
      rw [r'.ints] at h
      cases bs with
      | nil => cases hz
      | cons a l =>
        cases hz
        refine cr_max hc pins s σ H _ vs Q I r ⟨_, _, rfl, h, by simp, fun m hm hle => ?_⟩
        have q := maxI_mem a l
        have e : m = maxI a l := Int.le_antisymm (q.2 m hm) (hle _ q.1)
        rw [e]; exact g.here S (.int _)
    | _ => cases hz
  | min1 =>
    obtain ⟨x, rfl, hz⟩ := b1_some hz
    obtain ⟨u, rfl, hx⟩ := hv.one
    cases hx with
    | lst h r' =>
      obtain ⟨bs, e1, hz⟩ := Option.bind_eq_some_iff.mp hz
      rw [intsD_some e1] at r'
      rw [r'.ints] at h
      cases bs with
      | nil => cases hz
      | cons a l =>
        cases hz
        refine cr_min hc pins s σ H _ vs Q I r ⟨_, _, rfl, h, by simp, fun m hm hle => ?_⟩
        have q := minI_mem a l
        have e : m = minI a l := Int.le_antisymm (hle _ q.1) (q.2 m hm)
        rw [e]; exact g.here S (.int _)
    | _ => cases hz
  | max2 =>
    obtain ⟨x, y, rfl, hz⟩ := b2_some hz
    obtain ⟨u, w, rfl, hx, hy⟩ := hv.two
    cases hx <;> cases hy <;> (try (cases hz; done))
    cases hz
    exact call_max2 hc pins s σ H _ vs Q I r ⟨_, _, rfl, g.here S (.int _)⟩
  | min2 =>
    obtain ⟨x, y, rfl, hz⟩ := b2_some hz
    obtain ⟨u, w, rfl, hx, hy⟩ := hv.two
    cases hx <;> cases hy <;> (try (cases hz; done))
    cases hz
    exact call_min2 hc pins s σ H _ vs Q I r ⟨_, _, rfl, g.here S (.int _)⟩
  | abs =>
    obtain ⟨x, rfl, hz⟩ := b1_some hz
    obtain ⟨u, rfl, hx⟩ := hv.one
    cases hx <;> (try (cases hz; done))
    cases hz
    exact call_abs pins s σ H _ vs Q I r ⟨_, rfl, g.here S (.int _)⟩
  | int =>
    obtain ⟨x, rfl, hz⟩ := b1_some hz
    obtain ⟨u, rfl, hx⟩ := hv.one
    refine call_int1 pins s σ H _ vs Q I r ?_
    cases hx <;> (try (cases hz; done))
    · cases hz; exact .inr ⟨_, rfl, g.here S (.int _)⟩
    · cases hz; exact .inl ⟨_, rfl, g.here S (.int _)⟩
  | tuple =>
    obtain ⟨x, rfl, hz⟩ := b1_some hz
    obtain ⟨u, rfl, hx⟩ := hv.one
    refine call_tuple_of pins s σ H _ vs Q I r ?_
    cases hx with
    | lst h r' => cases hz; exact ⟨_, _, rfl, .inl ⟨h, fun l hl => g.tup S r' hl⟩⟩
    | tup p h r' =>
      cases hz
      exact ⟨_, _, rfl, .inr ⟨h, g.here S p⟩⟩
    | _ => cases hz
  | list =>
    obtain ⟨x, rfl, hz⟩ := b1_some hz
    obtain ⟨u, rfl, hx⟩ := hv.one
    refine call_list_of pins s σ H _ vs Q I r ?_
    cases hx with
    | lst h r' => cases hz; exact ⟨_, _, rfl, .inl h, fun l hl => g.lst S r' hl⟩
    | tup p h r' => cases hz; exact ⟨_, _, rfl, .inr h, fun l hl => g.lst S r' hl⟩
    | _ => cases hz
  | divmod =>
    obtain ⟨x, y, rfl, hz⟩ := b2_some hz
    obtain ⟨u, w, rfl, hx, hy⟩ := hv.two
    cases hx <;> cases hy <;> (try (cases hz; done))
    obtain ⟨h1, rfl⟩ := ifS hz
    exact call_divmod pins s σ H _ vs Q I r ⟨_, _, rfl, h1, fun p hp => g.tup S (.cons (.int _) (.cons (.int _) .nil)) hp⟩
  | sorted =>
    obtain ⟨x, rfl, hz⟩ := b1_some hz
    obtain ⟨u, rfl, hx⟩ := hv.one
    cases hx with
    | lst h r' =>
      have hz : (match intsD _ with
        | some ns => if ns.length < 64 then some (PyData.list ((ns.mergeSort (fun a b => decide (a ≤ b))).map .int)) else none
        | none => match strsD _ with
          | some ss => if ss.length < 64 then some (PyData.list ((ss.mergeSort leS).map .str)) else none
          | none => none) = some z := hz
      split at hz
      · rename_i ns e1
        obtain ⟨h1, rfl⟩ := ifS hz
        rw [intsD_some e1] at r'
        rw [r'.ints] at h
        refine cr_sorted pins s σ H _ vs Q I r ⟨_, _, rfl, h, h1, fun ms p pm pw hp => ?_⟩
        rw [sort_one_int pm pw]
        exact g.lst S (Reps.ofInts _) hp
      · split at hz
        · rename_i ss e1
          obtain ⟨h1, rfl⟩ := ifS hz
          rw [strsD_some e1] at r'
          rw [r'.strs] at h
          refine cr_sortedS pins s σ H _ vs Q I r ⟨_, _, rfl, h, h1, fun ms p pm pw hp => ?_⟩
          rw [sort_one_str pm pw]
          exact g.lst S (Reps.ofStrs _) hp
        · cases hz
    | _ => cases hz
  | strOf =>
    obtain ⟨x, rfl, hz⟩ := b1_some hz
    obtain ⟨u, rfl, hx⟩ := hv.one
    cases hx <;> (try (cases hz; done))
    obtain ⟨h1, rfl⟩ := ifS hz
    exact call_str_int pins s σ H _ vs Q I r ⟨_, rfl, h1, g.here S (.str _)⟩
end RL

set_option Elab.async false
set_option linter.all false
set_option maxRecDepth 100000
set_option maxHeartbeats 2000000
namespace RL
open PySem PySem.Spec PyProof.Rows L2
section
variable {X : Cx} {W : WD} {a b c : Expr} {ma mb mc : Env → M Val} {ta tb tc : Env → M Bool} {pos : Pos}
/-- the same, with the answer given at once -/
theorem PE.at {t : TE} (h : PE X a t) {m : Env → M Val}
    (k : ∀ σ H (Q : VK) Z φ ρ st, RelSt X.K Z φ st H → RelE X.K Z φ st H ρ σ → Good X.K H → Ok X.K W Z φ st H (m ρ st) (fun v φ' st' H' => ∀ u, RepV X.K Z φ' st' H' u v → Q u H') → t σ H fun u H1 => Good X.K H1 → Q u H1) : DE X W a m :=
  PE.goes h fun σ H Q q g => let ⟨Z, φ, ρ, st, S, E, ok⟩ := q g; k σ H Q Z φ ρ st S E g ok
theorem PT.at {t : TT} (h : PT X a t) {m : Env → M Bool}
    (k : ∀ σ H (Q : Bool → Hp → Prop) Z φ ρ st, RelSt X.K Z φ st H → RelE X.K Z φ st H ρ σ → Good X.K H → Ok X.K W Z φ st H (m ρ st) (fun v φ' st' H' => Q v H') → t σ H fun u H1 => Good X.K H1 → Q u H1) : DT X W a m :=
  PT.goes h fun σ H Q q g => let ⟨Z, φ, ρ, st, S, E, ok⟩ := q g; k σ H Q Z φ ρ st S E g ok
theorem give_of {Z : Addr → Prop} {φ : List Addr} {st : Sto} {H : Hp} {z : D} {Q : VK} (h : Ok X.K W Z φ st H ((pure (Val.d z) : M Val) st) fun v φ' st' H' => ∀ u, RepV X.K Z φ' st' H' u v → Q u H') :
    Give X.K Z φ st H z fun u H1 => Good X.K H1 → Q u H1 := fun u H' e S r g => h φ H' e S g u (.d r)
theorem de_neg (ha : DE X W a ma) : DE X W (.UnaryOp .USub a pos) (fun ρ => do let v ← ma ρ; let x ← lookM v; negK x) :=
  PE.at (pe_un un_neg ha) fun σ H Q Z φ ρ st S E g ok => tE_bnd S E ok fun v φ1 st1 H1 u e1 S1 E1 g1 r1 ok1 => by
    obtain ⟨x, hx, ok2⟩ := ok1.bnd.look S1 g1
    cases look_vw S1 r1 hx <;> (try (exact False.elim ok2))
    exact ⟨_, rfl, (give_of ok2).here S1 (.int _)⟩
theorem de_bin (o : BOp) (ha : DE X W a ma) (hb : DE X W b mb) : DE X W (.BinOp a o.to b pos) (fun ρ => do let v ← ma ρ; let w ← mb ρ; let x ← lookTM v; let y ← lookTM w; let z ← ofO (opB o x y); pure (.d z)) :=
  PE.at (pe_op (op_sound o) ha hb) fun σ H Q Z φ ρ st S E g ok => tE_bnd S E ok fun v φ1 st1 H1 u e1 S1 E1 g1 r1 ok1 => tE_bnd S1 E1 ok1 fun w φ2 st2 H2 u2 e2 S2 E2 g2 r2 ok2 => by
    obtain ⟨x, hx, ok3⟩ := ok2.bnd.lookT S2 g2
    obtain ⟨y, hy, ok4⟩ := ok3.bnd.lookT S2 g2
    obtain ⟨z, hz, ok5⟩ := ok4.bnd.ofO S2 g2
    exact ⟨Z, φ2, st2, x, y, z, S2, lookT_tvw S2 (r1.ext e2) hx, lookT_tvw S2 r2 hy, hz, give_of ok5⟩
theorem de_cmp (o : COp) (hu : X.A.units + 65 < cLine) (ha : DE X W a ma) (hb : DE X W b mb) (hm : behindInMarks o.to b = false) : DE X W (.Compare a [o.to] [b] pos) (fun ρ => do let v ← ma ρ; let w ← mb ρ; let x ← lookM v; let y ← lookM w; let z ← ofO (opC o x y); pure (.d (.bool z))) :=
  PE.at (pe_cmpR (cmp_sound hu o) ha hb hm) fun σ H Q Z φ ρ st S E g ok => tE_bnd S E ok fun v φ1 st1 H1 u e1 S1 E1 g1 r1 ok1 => tE_bnd S1 E1 ok1 fun w φ2 st2 H2 u2 e2 S2 E2 g2 r2 ok2 => by
    obtain ⟨x, hx, ok3⟩ := ok2.bnd.look S2 g2
    obtain ⟨y, hy, ok4⟩ := ok3.bnd.look S2 g2
    obtain ⟨z, hz, ok5⟩ := ok4.bnd.ofO S2 g2
    exact ⟨Z, φ2, st2, x, y, z, S2, look_vw S2 (r1.ext e2) hx, look_vw S2 r2 hy, hz, (give_of ok5).here S2 (.bl _)⟩
/-- the truth of what is told as a bool -/
theorem truM_bool {Z : Addr → Prop} {φ : List Addr} {st : Sto} {H : Hp} {b : Bool} {P : Bool → List Addr → Sto → Hp → Prop} (S : RelSt X.K Z φ st H) (g : Good X.K H) (h : Ok X.K W Z φ st H (truM (.d (.bool b)) st) P) : P b φ st H := by
  unfold truM at h
  obtain ⟨x, hx, h1⟩ := h.bnd.look S g
  cases hx
  obtain ⟨z, hz, h2⟩ := h1.ofO S g
  cases hz
  exact h2
theorem dt_cmp (o : COp) (hu : X.A.units + 65 < cLine) (ha : DE X W a ma) (hb : DE X W b mb) (hm : behindInMarks o.to b = false) :
    DT X W (.Compare a [o.to] [b] pos) (fun ρ => do let v ← (fun ρ => do let v ← ma ρ; let w ← mb ρ; let x ← lookM v; let y ← lookM w; let z ← ofO (opC o x y); pure (.d (.bool z)) : Env → M Val) ρ; truM v) :=
  PT.at (pt_cmpR (cmp_sound hu o) ha hb hm) fun σ H Q Z φ ρ st S E g ok => by
    refine tE_bnd S E (Ok.bnd ok) fun v φ1 st1 H1 u e1 S1 E1 g1 r1 ok1 => tE_bnd S1 E1 ok1 fun w φ2 st2 H2 u2 e2 S2 E2 g2 r2 ok2 => ?_
    obtain ⟨x, hx, ok3⟩ := ok2.bnd.look S2 g2
    obtain ⟨y, hy, ok4⟩ := ok3.bnd.look S2 g2
    obtain ⟨z, hz, ok5⟩ := ok4.bnd.ofO S2 g2
    exact ⟨Z, φ2, st2, x, y, z, S2, look_vw S2 (r1.ext e2) hx, look_vw S2 r2 hy, hz, z, rfl, fun g3 => truM_bool S2 g2 (ok5.ret S2 g2)⟩
theorem de_cmp2 (o p : COp) (hu : X.A.units + 65 < cLine) (ha : DE X W a ma) (hb : DE X W b mb) (hc : DE X W c mc) (hm : lastMarks [o.to, p.to] [b, c] = false) : DE X W (.Compare a [o.to, p.to] [b, c] pos) (fun ρ => do
    let v ← ma ρ
    let w ← mb ρ
    let x ← lookM v
    let y ← lookM w
    if ← ofO (opC o x y) then
      let u ← mc ρ
      let y ← lookM w
      let z ← lookM u
      let r ← ofO (opC p y z)
      pure (.d (.bool r))
    else pure (.d (.bool false))) :=
  PE.at (pe_chain (cmp_sound hu o) (cmp_sound hu p) ha hb hc hm) fun σ H Q Z φ ρ st S E g ok => tE_bnd S E ok fun v φ1 st1 H1 u e1 S1 E1 g1 r1 ok1 => tE_bnd S1 E1 ok1 fun w φ2 st2 H2 u2 e2 S2 E2 g2 r2 ok2 => by
    obtain ⟨x, hx, ok3⟩ := ok2.bnd.look S2 g2
    obtain ⟨y, hy, ok4⟩ := ok3.bnd.look S2 g2
    obtain ⟨z, hz, ok5⟩ := ok4.bnd.ofO S2 g2
    refine ⟨Z, φ2, st2, x, y, z, S2, look_vw S2 (r1.ext e2) hx, look_vw S2 r2 hy, hz, z, rfl, ?_⟩
    cases z with
    | false => exact (give_of ok5).here S2 (.bl _)
    | true =>
      rw [if_pos rfl]
      refine tE_bnd S2 E2 ok5 fun w3 φ3 st3 H3 u3 e3 S3 E3 g3 r3 ok6 => ?_
      obtain ⟨y2, hy2, ok7⟩ := ok6.bnd.look S3 g3
      obtain ⟨z2, hz2, ok8⟩ := ok7.bnd.look S3 g3
      obtain ⟨z3, hz3, ok9⟩ := ok8.bnd.ofO S3 g3
      exact ⟨Z, φ3, st3, y2, z2, z3, S3, look_vw S3 (r2.ext e3) hy2, look_vw S3 r3 hz2, hz3, (give_of ok9).here S3 (.bl _)⟩
theorem dt_cmp2 (o p : COp) (hu : X.A.units + 65 < cLine) (ha : DE X W a ma) (hb : DE X W b mb) (hc : DE X W c mc) (hm : lastMarks [o.to, p.to] [b, c] = false) : DT X W (.Compare a [o.to, p.to] [b, c] pos) (fun ρ => do
    let v ← (fun ρ => do
      let v ← ma ρ
      let w ← mb ρ
      let x ← lookM v
      let y ← lookM w
      if ← ofO (opC o x y) then
        let u ← mc ρ
        let y ← lookM w
        let z ← lookM u
        let r ← ofO (opC p y z)
        pure (.d (.bool r))
      else pure (.d (.bool false)) : Env → M Val) ρ
    truM v) :=
  PT.at (pt_chain (cmp_sound hu o) (cmp_sound hu p) ha hb hc hm) fun σ H Q Z φ ρ st S E g ok => by
    refine tE_bnd S E (Ok.bnd ok) fun v φ1 st1 H1 u e1 S1 E1 g1 r1 ok1 => tE_bnd S1 E1 ok1 fun w φ2 st2 H2 u2 e2 S2 E2 g2 r2 ok2 => ?_
    obtain ⟨x, hx, ok3⟩ := ok2.bnd.look S2 g2
    obtain ⟨y, hy, ok4⟩ := ok3.bnd.look S2 g2
    obtain ⟨z, hz, ok5⟩ := ok4.bnd.ofO S2 g2
    refine ⟨Z, φ2, st2, x, y, z, S2, look_vw S2 (r1.ext e2) hx, look_vw S2 r2 hy, hz, z, rfl, ?_⟩
    cases z with
    | false => exact ⟨false, rfl, fun g3 => truM_bool S2 g2 (Ok.ret ok5 S2 g2)⟩
    | true =>
      rw [if_pos rfl]
      refine tE_bnd S2 E2 ok5 fun w3 φ3 st3 H3 u3 e3 S3 E3 g3 r3 ok6 => ?_
      obtain ⟨y2, hy2, ok7⟩ := ok6.bnd.look S3 g3
      obtain ⟨z2, hz2, ok8⟩ := ok7.bnd.look S3 g3
      obtain ⟨z3, hz3, ok9⟩ := ok8.bnd.ofO S3 g3
      exact ⟨Z, φ3, st3, y2, z2, z3, S3, look_vw S3 (r2.ext e3) hy2, look_vw S3 r3 hz2, hz3, z3, rfl, fun g4 => truM_bool S3 g3 (ok9.ret S3 g3)⟩
theorem truM_vw {Z : Addr → Prop} {φ : List Addr} {st : Sto} {H : Hp} {u : V} {v : Val} {P : Bool → List Addr → Sto → Hp → Prop} (S : RelSt X.K Z φ st H) (g : Good X.K H) (r : RepV X.K Z φ st H u v) (h : Ok X.K W Z φ st H (truM v st) P) : ∃ b, TruV X.K u H b ∧ P b φ st H := by
  unfold truM at h
  obtain ⟨x, hx, h1⟩ := h.bnd.look S g
  obtain ⟨b, hb, h2⟩ := h1.ofO S g
  exact ⟨b, tru_sound (look_vw S r hx) hb, h2⟩
theorem de_and {rest : List Expr} (ha : DE X W a ma) (hb : DE X W (.BoolOp .And (b :: rest) pos) mb) : DE X W (.BoolOp .And (a :: b :: rest) pos) (fun ρ => do let v ← ma ρ; if ← truM v then mb ρ else pure v) :=
  PE.at (pe_andT ha hb) fun σ H Q Z φ ρ st S E g ok => tE_bnd S E ok fun v φ1 st1 H1 u e1 S1 E1 g1 r1 ok1 => by
    obtain ⟨k, hk, ok2⟩ := truM_vw S1 g1 r1 ok1.bnd
    refine ⟨k, hk, ?_⟩
    cases k with
    | true => exact fun _ => ⟨Z, φ1, ρ, st1, S1, E1, ok2.imp fun v φ' st' H' _ _ g' q u r _ => q u r⟩
    | false => exact fun g2 => ok2.ret S1 g1 u r1
theorem de_or {rest : List Expr} (ha : DE X W a ma) (hb : DE X W (.BoolOp .Or (b :: rest) pos) mb) : DE X W (.BoolOp .Or (a :: b :: rest) pos) (fun ρ => do let v ← ma ρ; if ← truM v then pure v else mb ρ) :=
  PE.at (pe_orT ha hb) fun σ H Q Z φ ρ st S E g ok => tE_bnd S E ok fun v φ1 st1 H1 u e1 S1 E1 g1 r1 ok1 => by
    obtain ⟨k, hk, ok2⟩ := truM_vw S1 g1 r1 ok1.bnd
    refine ⟨k, hk, ?_⟩
    cases k with
    | false => exact fun _ => ⟨Z, φ1, ρ, st1, S1, E1, ok2.imp fun v φ' st' H' _ _ g' q u r _ => q u r⟩
    | true => exact fun g2 => ok2.ret S1 g1 u r1
theorem de_one {op : PySem.BoolOp} (ha : DE X W a ma) : DE X W (.BoolOp op [a] pos) ma := pe_one ha
theorem de_not (ha : DE X W a ma) : DE X W (.UnaryOp .Not a pos) (fun ρ => do let v ← ma ρ; let b ← truM v; pure (.d (.bool !b))) :=
  PE.at (pe_notT ha) fun σ H Q Z φ ρ st S E g ok => tE_bnd S E ok fun v φ1 st1 H1 u e1 S1 E1 g1 r1 ok1 => by
    obtain ⟨k, hk, ok2⟩ := truM_vw S1 g1 r1 ok1.bnd
    exact ⟨k, hk, (give_of ok2).here S1 (.bl _)⟩
theorem dt_not (ha : DT X W a ta) : DT X W (.UnaryOp .Not a pos) (fun ρ => do let b ← ta ρ; pure !b) :=
  PT.at (pt_not ha) fun σ H Q Z φ ρ st S E g ok => tT_bnd S E ok fun v φ1 st1 H1 e1 S1 E1 g1 ok1 => fun g2 => ok1.ret S1 g1
abbrev DW (X : Cx) (W : WD) (e : Expr) (m : Env → M Bool) : Prop := PW X e (tT X.K W m)
theorem dw_and {rest : List Expr} (ha : DT X W a ta) (hb : DW X W (.BoolOp .And (b :: rest) pos) tb) : DW X W (.BoolOp .And (a :: b :: rest) pos) (fun ρ => do if ← ta ρ then tb ρ else pure false) :=
  PW.goes (pw_and ha hb) fun σ H Q q g => by
    obtain ⟨Z, φ, ρ, st, S, E, ok⟩ := q g
    refine tT_bnd S E ok fun v φ1 st1 H1 e1 S1 E1 g1 ok1 => ?_
    cases v with
    | true => exact fun _ => ⟨Z, φ1, ρ, st1, S1, E1, ok1.imp fun v φ' st' H' _ _ g' q _ => q⟩
    | false => exact fun g2 => Ok.ret ok1 S1 g1
theorem dw_or {rest : List Expr} (ha : DT X W a ta) (hb : DW X W (.BoolOp .Or (b :: rest) pos) tb) : DW X W (.BoolOp .Or (a :: b :: rest) pos) (fun ρ => do if ← ta ρ then pure true else tb ρ) :=
  PW.goes (pw_or ha hb) fun σ H Q q g => by
    obtain ⟨Z, φ, ρ, st, S, E, ok⟩ := q g
    refine tT_bnd S E ok fun v φ1 st1 H1 e1 S1 E1 g1 ok1 => ?_
    cases v with
    | false => exact fun _ => ⟨Z, φ1, ρ, st1, S1, E1, ok1.imp fun v φ' st' H' _ _ g' q _ => q⟩
    | true => exact fun g2 => Ok.ret ok1 S1 g1
theorem dt_val (ha : DE X W a ma) (he : ∀ whole, isTrue a X.env whole = (do let v ← whole; standAt a.pos; holding [v] (truthy v))) : DT X W a (fun ρ => do let v ← ma ρ; truM v) :=
  PT.at (pt_truth ha he) fun σ H Q Z φ ρ st S E g ok => tE_bnd S E ok fun v φ1 st1 H1 u e1 S1 E1 g1 r1 ok1 => by
    obtain ⟨k, hk, ok2⟩ := truM_vw S1 g1 r1 ok1
    exact ⟨k, hk, fun _ => ok2⟩
theorem de_ite (hc : DT X W c tc) (ha : DE X W a ma) (hb : DE X W b mb) : DE X W (.IfExp c a b pos) (fun ρ => do if ← tc ρ then ma ρ else mb ρ) :=
  PE.at (pe_ifExp hc ha hb) fun σ H Q Z φ ρ st S E g ok => tT_bnd S E ok fun v φ1 st1 H1 e1 S1 E1 g1 ok1 => by
    cases v with
    | true => exact fun _ => ⟨Z, φ1, ρ, st1, S1, E1, ok1.imp fun v φ' st' H' _ _ g' q u r _ => q u r⟩
    | false => exact fun _ => ⟨Z, φ1, ρ, st1, S1, E1, ok1.imp fun v φ' st' H' _ _ g' q u r _ => q u r⟩
/-! arguments -/
theorem da_nil : DA X W [] (fun _ => pure []) := PA.goes pa_nil fun σ H Q q g => by
  obtain ⟨Z, φ, ρ, st, S, E, ok⟩ := q g
  exact fun g' => ok.ret S g [] .nil
theorem da_cons {es : List Expr} {ms : Env → M (List Val)} (ha : DE X W a ma) (hr : DA X W es ms) (hs : notStar a = true) : DA X W (a :: es) (fun ρ => do let v ← ma ρ; let vs ← ms ρ; pure (v :: vs)) :=
  PA.goes (pa_cons ha hr (star_ns hs _ _)) fun σ H Q q g => by
    obtain ⟨Z, φ, ρ, st, S, E, ok⟩ := q g
    refine tE_bnd S E ok fun v φ1 st1 H1 u e1 S1 E1 g1 r1 ok1 => tA_bnd S1 E1 ok1 fun vs φ2 st2 H2 us e2 S2 E2 g2 r2 ok2 => ?_
    exact fun g' => ok2.ret S2 g2 _ (.cons (r1.ext e2) r2)
/-! values moved -/
theorem Ok.move {Z : Addr → Prop} {φ : List Addr} {st : Sto} {H : Hp} {u : V} {v : Val} {P : D → List Addr → Sto → Hp → Prop} (S : RelSt X.K Z φ st H) (g : Good X.K H) (r : RepV X.K Z φ st H u v) (h : Ok X.K W Z φ st H (moveM v st) P) :
    ∃ x st', Ext Z φ st H φ st' H ∧ RelSt X.K Z φ st' H ∧ Rep X.K H (LvZ Z φ st') u x ∧ P x φ st' H := by
  cases r with
  | d r => exact ⟨_, st, .refl, S, r, h.ret S g⟩
  | @r a n e =>
    cases q : st[n]? with
    | none =>
      have h : Ok X.K W Z φ st H (match st[n]? with | some c => .ok (.list c.xs) (freezeAt st n) | none => .no) P := h
      rw [q] at h; exact False.elim h
    | some c =>
      have h : Ok X.K W Z φ st H (match st[n]? with | some c => .ok (.list c.xs) (freezeAt st n) | none => .no) P := h
      rw [q] at h
      exact ⟨_, freezeAt st n, Ext.freeze, S.freeze, S.frozen e q, h φ H Ext.freeze S.freeze g⟩
  | s _ _ => exact False.elim h
  | rs _ _ _ => exact False.elim h
  | g _ _ => exact False.elim h
theorem Ok.moves {Z : Addr → Prop} {φ : List Addr} {H : Hp} (g : Good X.K H) : ∀ {us : List V} {vs : List Val} {st : Sto} {P : List D → List Addr → Sto → Hp → Prop}, RelSt X.K Z φ st H → RepVs X.K Z φ st H us vs → Ok X.K W Z φ st H (movesM vs st) P →
    ∃ xs st', Ext Z φ st H φ st' H ∧ RelSt X.K Z φ st' H ∧ Reps X.K H (LvZ Z φ st') us xs ∧ P xs φ st' H
  | _, _, st, P, S, .nil, h => ⟨[], st, .refl, S, .nil, Ok.ret (a := ([] : List D)) h S g⟩
  | _, _, st, P, S, .cons r rs, h => by
    obtain ⟨x, st1, e1, S1, r1, h1⟩ := Ok.move S g r (Ok.bnd h)
    obtain ⟨xs, st2, e2, S2, r2, h2⟩ := Ok.moves g S1 (rs.ext e1) (Ok.bnd h1)
    exact ⟨x :: xs, st2, e1.trans e2, S2, .cons (r1.ext e2) r2, h2.ret S2 g⟩
theorem de_tup {es : List Expr} {ms : Env → M (List Val)} {k : Nat} (h : DA X W es ms) : DE X W (.Tuple es k pos) (fun ρ => do let vs ← ms ρ; let xs ← movesM vs; tupK xs) :=
  PE.at (pe_tup h) fun σ H Q Z φ ρ st S E g ok => tA_bnd S E ok fun vs φ1 st1 H1 us e1 S1 E1 g1 r1 ok1 => by
    obtain ⟨xs, st2, e2, S2, r2, ok2⟩ := Ok.moves g1 S1 r1 ok1.bnd
    unfold tupK at ok2
    by_cases hl : xs.length ≤ sizeLine
    · rw [if_pos hl] at ok2
      exact ⟨by rw [r2.length]; exact hl, fun p hp => (give_of ok2).tup S2 r2 hp⟩
    · rw [if_neg hl] at ok2; exact False.elim ok2
theorem mkL_new {Z : Addr → Prop} {φ : List Addr} {st : Sto} {H : Hp} {cell : Bool} {xs : List D} {us : List V} {Q : VK} {p : Addr} (S : RelSt X.K Z φ st H) (r : Reps X.K H (LvZ Z φ st) us xs) (hp : H p = none)
    (h : Ok X.K W Z φ st H (mkL cell xs st) fun v φ' st' H' => ∀ u, RepV X.K Z φ' st' H' u v → Q u H') : Good X.K (upd H p (.lst us)) → Q (.ref p) (upd H p (.lst us)) := by
  intro g
  unfold mkL at h
  cases cell with
  | false => exact (give_of h).lst S r hp g
  | true => exact h (φ ++ [p]) _ (Ext.cell S hp) (S.newc hp r) g _ (.r (by rw [← S.len]; simp))
theorem de_lst {es : List Expr} {ms : Env → M (List Val)} (cell : Bool) (h : DA X W es ms) : DE X W (.List es pos) (fun ρ => do let vs ← ms ρ; let xs ← movesM vs; lstK cell xs) :=
  PE.at (pe_lst h) fun σ H Q Z φ ρ st S E g ok => tA_bnd S E ok fun vs φ1 st1 H1 us e1 S1 E1 g1 r1 ok1 => by
    obtain ⟨xs, st2, e2, S2, r2, ok2⟩ := Ok.moves g1 S1 r1 ok1.bnd
    unfold lstK at ok2
    by_cases hl : xs.length ≤ sizeLine
    · rw [if_pos hl] at ok2
      exact ⟨by rw [r2.length]; exact hl, fun p hp => mkL_new S2 r2 hp ok2⟩
    · rw [if_neg hl] at ok2; exact False.elim ok2
/-! subscripts -/
theorem atI_rep {Z : Addr → Prop} {φ : List Addr} {st : Sto} {H : Hp} {us : List V} {xs : List D} {i : Int} {x : D} (r : Reps X.K H (LvZ Z φ st) us xs) (h : atI xs i = some x) : ∃ u, atI us i = some u ∧ Rep X.K H (LvZ Z φ st) u x := by
  unfold atI at h ⊢
  rw [r.length]
  cases e : ixN xs.length i with
  | none => rw [e] at h; cases h
  | some j =>
    rw [e] at h
    obtain ⟨u, h1, h2⟩ := r.get h
    exact ⟨u, h1, h2⟩
theorem de_ix (ha : DE X W a ma) (hb : DE X W b mb) (hs : PlainIx b) : DE X W (.Subscript a b pos) (fun ρ => do let v ← ma ρ; let w ← mb ρ; let x ← lookM v; let y ← lookM w; ixK x y) :=
  PE.at (pe_ix ix_seq ha hb hs) fun σ H Q Z φ ρ st S E g ok => tE_bnd S E ok fun v φ1 st1 H1 u e1 S1 E1 g1 r1 ok1 => tE_bnd S1 E1 ok1 fun w φ2 st2 H2 u2 e2 S2 E2 g2 r2 ok2 => by
    obtain ⟨x, hx, ok3⟩ := ok2.bnd.look S2 g2
    obtain ⟨y, hy, ok4⟩ := ok3.bnd.look S2 g2
    have vx := look_vw S2 (r1.ext e2) hx
    cases look_vw S2 r2 hy <;> (try (exact False.elim ok4))
    obtain ⟨z, hz, ok5⟩ := ok4.bnd.ofO S2 g2
    cases vx with
    | lst h r =>
      obtain ⟨uz, h1, h2⟩ := atI_rep r hz
      exact .inl ⟨_, _, _, _, rfl, rfl, h, h1, (give_of ok5).here S2 h2⟩
    | tup p h r =>
      obtain ⟨uz, h1, h2⟩ := atI_rep r hz
      exact .inr (.inl ⟨_, _, _, _, rfl, rfl, h, h1, (give_of ok5).here S2 h2⟩)
    | str zz =>
      have hz : (if zz.length ≤ sizeLine then (atI zz.cps.toList _).map fun c => PyData.str ⟨#[c]⟩ else none) = some z := hz
      by_cases hl : zz.length ≤ sizeLine
      · rw [if_pos hl] at hz
        obtain ⟨c, hc, rfl⟩ := Option.map_eq_some_iff.mp hz
        exact .inr (.inr ⟨_, _, _, rfl, rfl, hl, hc, (give_of ok5).here S2 (.str _)⟩)
      · rw [if_neg hl] at hz; cases hz
    | _ => cases hz
theorem cut_rep {H : Hp} {L : Addr → Prop} {us : List V} {xs : List D} (r : Reps X.K H L us xs) (lo hi : Option Int) : Reps X.K H L (cutV us lo hi) (cutD xs lo hi) := by
  unfold cutV cutD
  rw [r.length]
  exact (r.drop _).take _
def rSlX (K : PySem.W.Frag) : V → Option Int → Option Int → Hp → VK → Prop := fun x lo hi H Q => rSlL K x lo hi H Q ∨ L2.rSlA K x lo hi H Q ∨ rSlS x lo hi H Q
theorem sl_any : SlR X (rSlX X.K) := sl_list.or (sl_tupA.or sl_str)
end
end RL

set_option Elab.async false
set_option linter.all false
set_option maxRecDepth 100000
set_option maxHeartbeats 2000000
namespace RL
open PySem PySem.Spec PyProof.Rows L2
section
variable {X : Cx} {W : WD} {a b c : Expr} {ma mb mc : Env → M Val} {pos p2 : Pos}
def tO (K : PySem.W.Frag) (W : WD) (m : Env → M (Option Int)) : TO := fun σ H Q => Good K H → ∃ Z φ ρ st, RelSt K Z φ st H ∧ RelE K Z φ st H ρ σ ∧ Ok K W Z φ st H (m ρ st) fun o φ' st' H' => Q o H'
abbrev DO (X : Cx) (W : WD) (e : Option Expr) (m : Env → M (Option Int)) : Prop := PO X e (tO X.K W m)
theorem PO.goes {e : Option Expr} {t t' : TO} (h : PO X e t) (k : ∀ σ H (Q : Option Int → Hp → Prop), t' σ H Q → Good X.K H → t σ H fun u H1 => Good X.K H1 → Q u H1) : PO X e t' := by
  refine ⟨fun pins s σ H Q I q => ?_⟩
  exact thn (h.run pins s σ H _ I (k σ H Q q (Inv.good I))) fun u s1 ⟨o, H1, I1, r1, q1⟩ => ⟨o, H1, I1, r1, q1 (Inv.good I1)⟩
theorem do_none : DO X W none (fun _ => do let l ← (pure [] : M (List Val)); partM l) := PO.goes po_none fun σ H Q q g => by
  obtain ⟨Z, φ, ρ, st, S, E, ok⟩ := q g
  exact fun g' => Ok.ret ok S g
theorem do_some (ha : DE X W a ma) : DO X W (some a) (fun ρ => do let l ← (do let v ← ma ρ; let vs ← (pure [] : M (List Val)); pure (v :: vs)); partM l) := PO.goes (po_some ha) fun σ H Q q g => by
  obtain ⟨Z, φ, ρ, st, S, E, ok⟩ := q g
  refine tE_bnd S E ok.bnd fun v φ1 st1 H1 u e1 S1 E1 g1 r1 ok1 => ?_
  have ok2 : Ok X.K W Z φ1 st1 H1 (partM [v] st1) fun o φ' st' H' => Q o H' := Ok.ret ok1 S1 g1
  cases r1 with
  | d r =>
    cases r <;> first
      | exact ⟨_, rfl, fun g' => Ok.ret ok2 S1 g1⟩
      | exact False.elim ok2
  | r _ => exact False.elim ok2
  | s _ _ => exact False.elim ok2
  | rs _ _ _ => exact False.elim ok2
  | g _ _ => exact False.elim ok2
theorem tO_bnd {α : Type} {σ : L2.St} {H : Hp} {Z : Addr → Prop} {φ : List Addr} {ρ : Env} {st : Sto} {m : Env → M (Option Int)} {f : Option Int → M α} {P : α → List Addr → Sto → Hp → Prop} {Q : Option Int → Hp → Prop}
    (S : RelSt X.K Z φ st H) (E : RelE X.K Z φ st H ρ σ) (h : Ok X.K W Z φ st H ((m ρ >>= f) st) P)
    (k : ∀ v φ' st' H', Ext Z φ st H φ' st' H' → RelSt X.K Z φ' st' H' → RelE X.K Z φ' st' H' ρ σ → Good X.K H' → Ok X.K W Z φ' st' H' (f v st') P → Q v H') : tO X.K W m σ H Q :=
  fun _ => ⟨Z, φ, ρ, st, S, E, h.bnd.imp fun v φ' st' H' e S' g q => k v φ' st' H' e S' (E.ext e) g q⟩
theorem bnd_assoc {α β γ : Type} (m : M α) (f : α → M β) (g : β → M γ) : ((m >>= f) >>= g) = (m >>= fun x => f x >>= g) := by
  funext st
  show M.bnd (M.bnd m f) g st = M.bnd m (fun x => M.bnd (f x) g) st
  unfold M.bnd
  cases m st <;> rfl
theorem de_sl {lo hi : Option Expr} {ml mh : Env → M (List Val)} (ha : DE X W a ma) (hl : DO X W lo (fun ρ => do let l ← ml ρ; partM l)) (hh : DO X W hi (fun ρ => do let l ← mh ρ; partM l)) : DE X W (.Subscript a (.Slice lo hi none p2) pos) (fun ρ => do
    let v ← ma ρ
    let l ← ml ρ
    let l ← partM l
    let h ← mh ρ
    let h ← partM h
    let x ← lookM v
    let z ← ofO (slD x l h)
    pure (.d z)) :=
  PE.at (pe_slice sl_any ha hl hh) fun σ H Q Z φ ρ st S E g ok => tE_bnd S E ok fun v φ1 st1 H1 u e1 S1 E1 g1 r1 ok1 => by
    rw [← bnd_assoc] at ok1
    refine tO_bnd (m := fun ρ => do let l ← ml ρ; partM l) S1 E1 ok1 fun l φ2 st2 H2 e2 S2 E2 g2 ok2 => ?_
    rw [← bnd_assoc] at ok2
    refine tO_bnd (m := fun ρ => do let l ← mh ρ; partM l) S2 E2 ok2 fun h φ3 st3 H3 e3 S3 E3 g3 ok3 => ?_
    obtain ⟨x, hx, ok4⟩ := ok3.bnd.look S3 g3
    obtain ⟨z, hz, ok5⟩ := ok4.bnd.ofO S3 g3
    cases look_vw S3 (r1.ext (e2.trans e3)) hx with
    | lst q rr => cases hz; exact .inl ⟨_, _, rfl, q, fun p hp => (give_of ok5).lst S3 (cut_rep rr l h) hp⟩
    | @tup _ us xs p q rr =>
      cases hz
      refine .inr (.inl ⟨_, _, rfl, q, fun hw => ?_, fun _ p hp => (give_of ok5).tup S3 (cut_rep rr l h) hp⟩)
      refine (give_of ok5).here S3 ?_
      rw [rr.length] at hw
      have e : cutD xs l h = xs := by
        unfold cutD
        rw [hw.1, hw.2, List.drop_zero, Nat.sub_zero, List.take_length]
      rw [e]
      exact p
    | str zz =>
      obtain ⟨h1, rfl⟩ := ifS hz
      exact .inr (.inr ⟨_, rfl, h1, (give_of ok5).here S3 (.str _)⟩)
    | _ => cases hz
theorem de_rev {k : Nat} {p1 p3 : Pos} (ha : DE X W a ma) : DE X W (.Subscript a (.Slice none none (some (.UnaryOp .USub (.Constant (.int 1) k p1) p2)) p3) pos) (fun ρ => do let v ← ma ρ; let x ← lookM v; revK x) :=
  PE.at (pe_revA ha) fun σ H Q Z φ ρ st S E g ok => tE_bnd S E ok fun v φ1 st1 H1 u e1 S1 E1 g1 r1 ok1 => by
    obtain ⟨x, hx, ok2⟩ := ok1.bnd.look S1 g1
    cases look_vw S1 r1 hx with
    | lst q rr => exact ⟨_, _, rfl, .inl ⟨q, fun p hp => (give_of ok2).lst S1 rr.rev hp⟩⟩
    | tup _ q rr => exact ⟨_, _, rfl, .inr ⟨q, fun p hp => (give_of ok2).tup S1 rr.rev hp⟩⟩
    | _ => exact False.elim ok2
/-! ### built-ins -/
theorem Ok.looks {Z : Addr → Prop} {φ : List Addr} {st : Sto} {H : Hp} (S : RelSt X.K Z φ st H) (g : Good X.K H) : ∀ {us : List V} {vs : List Val} {P : List D → List Addr → Sto → Hp → Prop}, RepVs X.K Z φ st H us vs → Ok X.K W Z φ st H (looksM vs st) P →
    ∃ xs, Vws X.K H (LvZ Z φ st) us xs ∧ P xs φ st H
  | _, _, P, .nil, h => ⟨[], .nil, Ok.ret (a := ([] : List D)) h S g⟩
  | _, _, P, .cons r rs, h => by
    obtain ⟨x, hx, h1⟩ := (Ok.bnd h).look S g
    obtain ⟨xs, hxs, h2⟩ := Ok.looks S g rs (Ok.bnd h1)
    exact ⟨x :: xs, .cons (look_vw S r hx) hxs, h2.ret S g⟩
theorem call_ok {r : List V → Hp → VK → Prop} {es : List Expr} {ms : Env → M (List Val)} {k : List Val → M Val} {e : Expr} (h : PE X e (tCB r (tA X.K W ms)))
    (hk : ∀ (Q : VK) Z φ st H us vs, RelSt X.K Z φ st H → Good X.K H → RepVs X.K Z φ st H us vs → Ok X.K W Z φ st H (k vs st) (fun v φ' st' H' => ∀ u, RepV X.K Z φ' st' H' u v → Q u H') → r us H fun u H1 => Good X.K H1 → Q u H1) :
    DE X W e (fun ρ => do let vs ← ms ρ; k vs) :=
  PE.at h fun σ H Q Z φ ρ st S E g ok => tA_bnd S E ok fun vs φ1 st1 H1 us e1 S1 E1 g1 r1 ok1 => hk Q Z φ1 st1 H1 us vs S1 g1 r1 ok1
theorem bi_k (b : Bi) (Q : VK) (Z : Addr → Prop) (φ : List Addr) (st : Sto) (H : Hp) (us : List V) (vs : List Val) (S : RelSt X.K Z φ st H) (g : Good X.K H) (r : RepVs X.K Z φ st H us vs)
    (ok : Ok X.K W Z φ st H ((do let xs ← looksM vs; let z ← ofO (biD b xs); pure (.d z) : M Val) st) (fun v φ' st' H' => ∀ u, RepV X.K Z φ' st' H' u v → Q u H')) : rBi X.K b us H fun u H1 => Good X.K H1 → Q u H1 := by
  obtain ⟨xs, hxs, ok1⟩ := Ok.looks S g r ok.bnd
  obtain ⟨z, hz, ok2⟩ := ok1.bnd.ofO S g
  exact ⟨Z, φ, st, xs, z, S, g, hxs, hz, give_of ok2⟩
theorem de_bi (b : Bi) (hc : X.calm = true) {x : Str} {p : Pos} {e : Expr} {es : List Expr} {ms : Env → M (List Val)} (hg : Gl X x) (hm : X.mg x = none) (hv : bootBuiltins x = some b.val.v) (hn : x ≠ "__name__") (hdb : (x == ("__debug__" : Str)) = false) (hs : allNS (e :: es) = true) (h : DA X W (e :: es) ms) :
    DE X W (.Call (.Name x p) (e :: es) [] pos) (fun ρ => do let vs ← ms ρ; let xs ← looksM vs; let z ← ofO (biD b xs); pure (.d z)) := by
  have hs1 := Bool.and_eq_true_iff.mp (show (notStar e && allNS es) = true from hs)
  have cs := bi_sound (X := X) hc b
  cases q : b.val with
  | blt id =>
    rw [q] at cs hv
    exact call_ok (es := e :: es) (pe_callB cs hg hm hv h hn hdb (star_ns hs1.1 _ _) (back_any hs1.2 _ _)) (bi_k b)
  | typ id =>
    rw [q] at cs hv
    exact call_ok (es := e :: es) (pe_callTy cs hg hm hv h hn hdb (star_ns hs1.1 _ _) (back_any hs1.2 _ _)) (bi_k b)
theorem rgOk_to {a b : Int} (h : rgOk a b) : RgOk a b := ⟨h.1, h.2.1, h.2.2.1, h.2.2.2.1, by have := h.2.2.2.2; rw [sizeLine_eq] at this; omega⟩
theorem de_rgT {p q pos' : Pos} (hc : X.calm = true) (hg : Gl X "tuple") (hm : X.mg "tuple" = none) (hg2 : Gl X "range") (hm2 : X.mg "range" = none) (hs : notStar a = true) (ha : DE X W a ma) :
    DE X W (.Call (.Name "tuple" p) [.Call (.Name "range" q) [a] [] pos'] [] pos) (fun ρ => do let v ← ma ρ; let x ← lookM v; rgTK x) :=
  PE.at (pe_tupRg hc hg hm (prg_1 hg2 hm2 ha (star_ns hs _ _)) (star_ns rfl _ _)) fun σ H Q Z φ ρ st S E g ok => by
    refine tE_bnd S E ok fun v φ1 st1 H1 u e1 S1 E1 g1 r1 ok1 => ?_
    obtain ⟨x, hx, ok2⟩ := ok1.bnd.look S1 g1
    cases look_vw S1 r1 hx with
    | int n =>
      have ok2 : Ok X.K W Z φ1 st1 H1 ((if rgOk 0 n then pure (.d (.tuple (rgD 0 n))) else no : M Val) st1) _ := ok2
      by_cases hn : rgOk 0 n
      · rw [if_pos hn] at ok2
        exact ⟨n, rfl, rgOk_to hn, fun p hp => (give_of ok2).tup S1 (rg_reps 0 n) hp⟩
      · rw [if_neg hn] at ok2; exact False.elim ok2
    | _ => exact False.elim ok2
theorem de_rgL (cell : Bool) {p q pos' : Pos} (hc : X.calm = true) (hg : Gl X "list") (hm : X.mg "list" = none) (hg2 : Gl X "range") (hm2 : X.mg "range" = none) (hs : notStar a = true) (ha : DE X W a ma) :
    DE X W (.Call (.Name "list" p) [.Call (.Name "range" q) [a] [] pos'] [] pos) (fun ρ => do let v ← ma ρ; let x ← lookM v; rgLK cell x) :=
  PE.at (pe_listRg hc hg hm (prg_1 hg2 hm2 ha (star_ns hs _ _)) (star_ns rfl _ _)) fun σ H Q Z φ ρ st S E g ok => by
    refine tE_bnd S E ok fun v φ1 st1 H1 u e1 S1 E1 g1 r1 ok1 => ?_
    obtain ⟨x, hx, ok2⟩ := ok1.bnd.look S1 g1
    cases look_vw S1 r1 hx with
    | int n =>
      have ok2 : Ok X.K W Z φ1 st1 H1 ((if rgOk 0 n then mkL cell (rgD 0 n) else no : M Val) st1) _ := ok2
      by_cases hn : rgOk 0 n
      · rw [if_pos hn] at ok2
        exact ⟨n, rfl, rgOk_to hn, fun p hp => mkL_new S1 (rg_reps 0 n) hp ok2⟩
      · rw [if_neg hn] at ok2; exact False.elim ok2
    | _ => exact False.elim ok2
theorem de_rgV {p : Pos} (hg : Gl X "range") (hm : X.mg "range" = none) (hs : notStar a = true) (hs2 : notStar b = true) (ha : DE X W a ma) (hb : DE X W b mb) :
    DE X W (.Call (.Name "range" p) [a, b] [] pos) (fun ρ => do let v ← ma ρ; let w ← mb ρ; let x ← lookM v; let y ← lookM w; rgVK x y) := by
  refine PE.at (W := W) (pe_callTy cr_range2 hg hm PyProof.Rows.boot_range (pa_cons ha (pa_cons hb pa_nil (star_ns hs2 _ _)) (star_ns hs _ _)) (by decide) (by decide) (star_ns hs _ _) (back_any (es := [b]) (by show (notStar b && true) = true; rw [hs2]; rfl) _ _)) fun σ H Q Z φ ρ st S E g ok => ?_
  refine tE_bnd S E ok fun v φ1 st1 H1 u e1 S1 E1 g1 r1 ok1 => tE_bnd S1 E1 ok1 fun w φ2 st2 H2 u2 e2 S2 E2 g2 r2 ok2 => ?_
  obtain ⟨x, hx, ok3⟩ := ok2.bnd.look S2 g2
  obtain ⟨y, hy, ok4⟩ := ok3.bnd.look S2 g2
  cases look_vw S2 (r1.ext e2) hx with
  | int i =>
    cases look_vw S2 r2 hy with
    | int j => exact ⟨i, j, rfl, fun p hp g3 => ok4 φ2 _ (Ext.laid S2 hp) (S2.laid hp) g3 _ (.g upd_same (S2.nlive hp))⟩
    | _ => exact False.elim ok4
  | _ => cases look_vw S2 r2 hy <;> exact False.elim ok4
theorem de_listC {x : Str} {p : Pos} (hc : X.calm = true) (hg : Gl X "list") (hm : X.mg "list" = none) (hs : notStar a = true) (ha : DE X W a ma) :
    DE X W (.Call (.Name "list" p) [a] [] pos) (fun ρ => do let v ← ma ρ; let x ← lookM v; listK x) := by
  refine PE.at (W := W) (pe_callTy call_list_of hg hm PyProof.Rows.boot_list (pa_cons ha pa_nil (star_ns hs _ _)) (by decide) (by decide) (star_ns hs _ _) rfl) fun σ H Q Z φ ρ st S E g ok => ?_
  refine tE_bnd S E ok fun v φ1 st1 H1 u e1 S1 E1 g1 r1 ok1 => ?_
  obtain ⟨x, hx, ok2⟩ := ok1.bnd.look S1 g1
  show ∃ p ys, [u] = [V.ref p] ∧ (SqL X.K H1 p ys ∨ SqT X.K H1 p ys) ∧ ∀ l, H1 l = none → Good X.K (upd H1 l (.lst ys)) → Q (.ref l) (upd H1 l (.lst ys))
  cases look_vw S1 r1 hx with
  | lst q rr => exact ⟨_, _, rfl, .inl q, fun p hp => mkL_new (cell := true) S1 rr hp ok2⟩
  | tup _ q rr => exact ⟨_, _, rfl, .inr q, fun p hp => mkL_new (cell := true) S1 rr hp ok2⟩
  | _ => exact False.elim ok2
/-! ### isinstance -/
theorem de_isi (t : Ty) {p q : Pos} (hg : Gl X "isinstance") (hm : X.mg "isinstance" = none) (hg2 : Gl X (Str.ofString t.name)) (hm2 : X.mg (Str.ofString t.name) = none) (hs : notStar a = true) (ha : DE X W a ma) :
    DE X W (.Call (.Name "isinstance" p) [a, .Name (Str.ofString t.name) q] [] pos) (fun ρ => do let v ← ma ρ; let x ← lookM v; pure (.d (.bool (tyB t x)))) := by
  have hb : bootBuiltins (Str.ofString t.name) = some (.type t.name) := by cases t <;> decide +kernel
  refine PE.at (pe_callB call_isi hg hm (by decide +kernel) (pa_cons ha (pa_cons (pe_bltn (v := .ty t.name) hg2 hm2 hb rfl (by cases t <;> decide +kernel) (by cases t <;> decide +kernel)) pa_nil (star_ns rfl _ _)) (star_ns hs _ _)) (by decide) (by decide) (star_ns hs _ _) rfl) fun σ H Q Z φ ρ st S E g ok => ?_
  refine tE_bnd S E ok fun v φ1 st1 H1 u e1 S1 E1 g1 r1 ok1 => ?_
  obtain ⟨x, hx, ok2⟩ := ok1.bnd.look S1 g1
  have fin : ∀ (tn : String), TyX X.K H1 u (.type tn) → kitB tn t.name = some (tyB t x) → ∃ (x' c : V) (t' u' : Value) (b : Bool), [u, V.ty t.name] = [x', c] ∧ ClsV c u' ∧ TyX X.K H1 x' t' ∧ PySem.W.kitOne X.K t' u' = some b ∧ (Good X.K H1 → Q (.bl b) H1) := fun tn ty kb =>
    ⟨u, _, _, _, tyB t x, rfl, .ty _, ty, kit_ty kb, fun g2 => (give_of ok2).here S1 (.bl _) g2⟩
  cases look_vw S1 r1 hx with
  | non => exact fin "NoneType" (.base .non) (by cases t <;> decide +kernel)
  | bl b => exact fin "bool" (.base (.bl b)) (by cases t <;> simp only [tyB] <;> decide +kernel)
  | int i => exact fin "int" (.base (.int i)) (by cases t <;> simp only [tyB] <;> decide +kernel)
  | str z => exact fin "str" (.base (.str z)) (by cases t <;> simp only [tyB] <;> decide +kernel)
  | tup _ q rr =>
    refine fin "tuple" ?_ (by cases t <;> simp only [tyB] <;> decide +kernel)
    rcases q with (q | ⟨o, q⟩) | ⟨o, its, n, h1, h2, _⟩
    · exact .base (.tup q)
    · exact .fTuple q
    · exact .kTuple h1 h2
  | lst q rr =>
    refine fin "list" ?_ (by cases t <;> simp only [tyB] <;> decide +kernel)
    rcases q with (q | ⟨o, q⟩) | ⟨o, its, n, h1, h2, _⟩
    · exact .base (.lst q)
    · exact .base (.frz q)
    · exact .kList h1 h2
/-! ### methods -/
theorem store_ok' {Z : Addr → Prop} {φ : List Addr} {st : Sto} {H : Hp} {n : Nat} {p : Addr} {f : List D → Option (List D)} {P : Unit → List Addr → Sto → Hp → Prop} (S : RelSt X.K Z φ st H) (e : φ[n]? = some p) (h : Ok X.K W Z φ st H (storeM n f st) P) :
    ∃ xs us ys, st[n]? = some ⟨true, xs⟩ ∧ H p = some (.lst us) ∧ Reps X.K H (LvZ Z φ st) us xs ∧ f xs = some ys ∧ ∀ ws, Reps X.K H (LvZ Z φ st) ws ys → Good X.K (upd H p (.lst ws)) → P () φ (st.set n ⟨true, ys⟩) (upd H p (.lst ws)) := by
  unfold storeM at h
  split at h
  · rename_i xs q
    obtain ⟨us, h1, h2⟩ := S.cell _ _ _ e q
    cases q2 : f xs with
    | none => rw [q2] at h; exact False.elim h
    | some ys =>
      rw [q2] at h
      exact ⟨xs, us, ys, q, h1, h2, q2, fun ws r g => h φ _ (Ext.store S e q) (S.store e q r) g⟩
  · exact False.elim h
theorem cell_of {Z : Addr → Prop} {φ : List Addr} {st : Sto} {H : Hp} {u : V} {v : Val} {P : Nat → List Addr → Sto → Hp → Prop} (S : RelSt X.K Z φ st H) (g : Good X.K H) (r : RepV X.K Z φ st H u v) (h : Ok X.K W Z φ st H (asCell v st) P) :
    ∃ n p us, u = .ref p ∧ φ[n]? = some p ∧ H p = some (.lst us) ∧ P n φ st H := by
  cases r with
  | @r a n e =>
    obtain ⟨c, hc⟩ := S.atA e
    obtain ⟨us, h1, _⟩ := S.cell _ _ _ e hc
    exact ⟨n, a, us, rfl, e, h1, Ok.ret h S g⟩
  | d _ => exact False.elim h
  | s _ _ => exact False.elim h
  | rs _ _ _ => exact False.elim h
  | g _ _ => exact False.elim h
theorem de_app {apos : Pos} (hs : notStar b = true) (hba : plainBase a = true) (hline : (apos.endLine == pos.line) = true) (ha : DE X W a ma) (hb : DE X W b mb) :
    DE X W (.Call (.Attribute a "append" apos) [b] [] pos) (fun ρ => do let v ← ma ρ; let n ← asCell v; let w ← mb ρ; let x ← moveM w; appM n x) := by
  refine PE.at (pe_bm PySem.F.plainAttrs_list PySem.F.slot_list_append PySem.F.type_list_append mt_append ha (pa_cons hb pa_nil (star_ns hs _ _)) (base_ok hba _ _ _) ?_ hline (star_ns hs _ _) rfl) fun σ H Q Z φ ρ st S E g ok => ?_
  · rw [star_ns hs]; rfl
  refine tE_bnd S E ok fun v φ1 st1 H1 u e1 S1 E1 g1 r1 ok1 => ?_
  obtain ⟨n, p, us, rfl, hn, hp, ok2⟩ := cell_of S1 g1 r1 ok1.bnd
  refine ⟨.inl ⟨rfl, us, SqL.of hp⟩, ?_⟩
  refine tE_bnd S1 E1 ok2 fun w φ2 st2 H2 uw e2 S2 E2 g2 r2 ok3 => ?_
  obtain ⟨x, st3, e3, S3, r3, ok4⟩ := Ok.move S2 g2 r2 ok3.bnd
  unfold appM at ok4
  obtain ⟨xs, ws, ys, q1, q2, q3, q4, q5⟩ := store_ok' S3 (e2.get hn) ok4.bnd
  obtain ⟨h1, rfl⟩ := ifS q4
  refine ⟨p, ws, uw, rfl, rfl, q2, by rw [q3.length]; exact h1, fun g4 => ?_⟩
  have q6 := q5 (ws ++ [uw]) (q3.app (.cons r3 .nil)) g4
  exact (give_of q6).here (S3.store (e2.get hn) q1 (q3.app (.cons r3 .nil))) .non g4
theorem de_upper {apos : Pos} (hba : plainBase a = true) (hline : (apos.endLine == pos.line) = true) (ha : DE X W a ma) : DE X W (.Call (.Attribute a "upper" apos) [] [] pos) (fun ρ => do let v ← ma ρ; let x ← lookM v; upperK x) :=
  PE.at (pe_upper ha (base_ok hba _ _ _) hline) fun σ H Q Z φ ρ st S E g ok => tE_bnd S E ok fun v φ1 st1 H1 u e1 S1 E1 g1 r1 ok1 => by
    obtain ⟨x, hx, ok2⟩ := ok1.bnd.look S1 g1
    cases look_vw S1 r1 hx with
    | str z =>
      have ok2 : Ok X.K W Z φ1 st1 H1 ((if z.length ≤ 5592405 then pure (.d (.str (Txt.upper z))) else no : M Val) st1) _ := ok2
      by_cases hl : z.length ≤ 5592405
      · rw [if_pos hl] at ok2
        exact ⟨⟨z, rfl⟩, z, rfl, rfl, hl, (give_of ok2).here S1 (.str _)⟩
      · rw [if_neg hl] at ok2; exact False.elim ok2
    | _ => exact False.elim ok2
end
end RL

set_option Elab.async false
set_option linter.all false
set_option maxRecDepth 100000
set_option maxHeartbeats 4000000
namespace RL
open PySem PySem.Spec PyProof.Rows L2
/-! ### parameters bound -/
theorem lookup_zip {ps : List Str} {us : List Value} : ∀ {n : Str}, n ∈ ps → us.length = ps.length → ((ps.zip us).lookup n).isSome = true := by
  induction ps generalizing us with
  | nil => intro n h; cases h
  | cons p ps ih =>
    intro n h hl
    cases us with
    | nil => cases hl
    | cons u us =>
      rw [List.zip_cons_cons, List.lookup_cons]
      cases q : (n == p) with
      | true => rfl
      | false =>
        rcases List.mem_cons.mp h with e | h
        · rw [e] at q; simp at q
        · exact ih h (by simpa using hl)
theorem filterMap_zip : ∀ {ps : List Str} {us : List Value} (pre : List (Str × Value)), ps.Nodup → (∀ n ∈ ps, pre.lookup n = none) → us.length = ps.length → ps.filterMap (fun n => ((pre ++ ps.zip us).lookup n).map fun v => (n, v)) = ps.zip us
  | [], us, pre, _, _, _ => by simp
  | p :: ps, [], pre, _, _, hl => by cases hl
  | p :: ps, u :: us, pre, hn, hp, hl => by
    have hn' := List.nodup_cons.mp hn
    have e1 : (pre ++ (p :: ps).zip (u :: us)).lookup p = some u := by
      rw [List.lookup_append, hp p List.mem_cons_self]
      simp
    rw [List.filterMap_cons, e1]
    show (p, u) :: _ = (p, u) :: _
    congr 1
    have ih := filterMap_zip (ps := ps) (us := us) (pre ++ [(p, u)]) hn'.2 (fun n hm => by
      rw [List.lookup_append, hp n (List.mem_cons_of_mem _ hm)]
      have : n ≠ p := fun e => hn'.1 (e ▸ hm)
      have q : (n == p) = false := by simpa using this
      simp [List.lookup_cons, q]) (by simpa using hl)
    rw [List.append_assoc] at ih
    exact ih
theorem bind_simple {x qual : Str} {body : List Stmt} {scope : Scope} {kV doc pm : Value} {an : Option Addr} {cdv ct : Value} {as : List Arg} {us : List Value} (hn : (as.map (·.arg)).Nodup) (hl : us.length = as.length) :
    bindArgs (PySem.W.fnOf x qual ⟨[], as, none, [], [], none, []⟩ body scope .none kV doc pm an cdv ct) ⟨us, []⟩ = pure ((as.map (·.arg)).zip us) := by
  have hl' : us.length = (as.map (·.arg)).length := by simpa using hl
  have e : seqItems? Value.none = pure none := rfl
  have f1 : ((as.map (·.arg)).filter fun n => (((as.map (·.arg)).zip us).lookup n).isNone) = [] := by
    rw [List.filter_eq_nil_iff]
    intro n hm
    have := lookup_zip (us := us) hm hl'
    rw [Option.isSome_iff_exists] at this
    obtain ⟨v, hv⟩ := this
    rw [hv]; simp
  have f2 := filterMap_zip (us := us) [] hn (fun _ _ => rfl) hl'
  unfold bindArgs
  simp only [PySem.W.fnOf, List.map_nil, List.nil_append, List.length_map, List.forIn_nil, pure_bind, List.append_nil, e, Option.getD_none, List.length_nil, Nat.zero_sub, List.drop_nil, Nat.sub_zero, hl, Nat.lt_irrefl, decide_false, Bool.false_and, gt_iff_lt]
  have t1 : ((as.map (·.arg)).take as.length) = as.map (·.arg) := by rw [List.take_of_length_le]; simp
  rw [if_neg Bool.false_ne_true, t1, f1]
  simp only [List.isEmpty_nil, Bool.not_true, pure_bind]
  rw [if_neg Bool.false_ne_true]
  have d1 : ((as.map (·.arg)).drop as.length).zip ([] : List Value) = [] := List.zip_nil_right
  simp only [List.toList_toArray, List.drop_nil, List.zip_nil_right, List.forIn_nil, pure_bind]
  rw [if_neg Bool.false_ne_true]
  simp only [List.nil_append] at f2
  rw [f2]

/-- a plain def: no defaults, nothing but positional parameters -/
def SimpleFd (fd : FuncData) (ps : List Str) : Prop := ∃ (x qual : Str) (as : List Arg) (body : List Stmt) (scope : Scope) (kV doc pm : Value) (an : Option Addr) (cdv ct : Value),
  fd = PySem.W.fnOf x qual ⟨[], as, none, [], [], none, []⟩ body scope .none kV doc pm an cdv ct ∧ ps = as.map (·.arg) ∧ ps.Nodup
theorem SimpleFd.bind {fd : FuncData} {ps : List Str} (h : SimpleFd fd ps) {us : List Value} (hl : us.length = ps.length) : bindArgs fd ⟨us, []⟩ = pure (ps.zip us) := by
  obtain ⟨x, qual, as, body, scope, kV, doc, pm, an, cdv, ct, rfl, rfl, hn⟩ := h
  exact bind_simple hn (by simpa using hl)
theorem SimpleFd.binds {K : PySem.W.Frag} {fd : FuncData} {ps : List Str} (h : SimpleFd fd ps) : Binds K fd ps [] := Binds.all fun us hl => h.bind hl
theorem lookup_at {L : List Str} {V : List Value} {i : Nat} {n : Str} {v : Value} (hn : L.Nodup) (h1 : L[i]? = some n) (h2 : V[i]? = some v) : (L.zip V).lookup n = some v := by
  induction L generalizing V i with
  | nil => simp at h1
  | cons a L ih =>
    cases V with
    | nil => simp at h2
    | cons b V =>
      have hn' := List.nodup_cons.mp hn
      rw [List.zip_cons_cons, List.lookup_cons]
      cases i with
      | zero =>
        simp at h1 h2
        subst h1 h2
        simp
      | succ i =>
        simp at h1 h2
        have : n ≠ a := fun e => hn'.1 (e ▸ List.mem_of_getElem? h1)
        have q : (n == a) = false := by simpa using this
        rw [q]
        exact ih hn'.2 h1 h2
theorem lookup_zip_none {L : List Str} {V : List Value} {n : Str} (h : n ∉ L) : (L.zip V).lookup n = none := by
  induction L generalizing V with
  | nil => rfl
  | cons a L ih =>
    cases V with
    | nil => rfl
    | cons b V =>
      rw [List.zip_cons_cons, List.lookup_cons]
      have q : (n == a) = false := beq_eq_false_iff_ne.mpr fun e => h (by rw [e]; exact List.mem_cons_self)
      rw [q]
      exact ih fun z => h (List.mem_cons_of_mem _ z)
def permOk (ps : List Str) (n : Nat) (ks : List Str) (perm : List Nat) : Bool := decide (n ≤ ps.length) && (decide ((ps.take n ++ ks).Nodup) && (ks.all (fun k => ps.contains k) && decide (perm.map (fun i => (ps.take n ++ ks)[i]?) = ps.map some)))
def permV (vs : List Value) (perm : List Nat) : List Value := perm.map fun i => vs.getD i .none
theorem for_kw {α : Type} {f : Str × Value → α → Sem (ForInStep α)} {mk : List (Str × Value) → α} {ps : List Str} (hf : ∀ k v sl, k ∈ ps → sl.lookup k = none → f (k, v) (mk sl) = pure (ForInStep.yield (mk (sl ++ [(k, v)])))) :
    ∀ (l : List (Str × Value)) (sl : List (Str × Value)), (∀ q ∈ l, q.1 ∈ ps) → (l.map (·.1)).Nodup → (∀ q ∈ l, sl.lookup q.1 = none) → forIn l (mk sl) f = pure (mk (sl ++ l))
  | [], sl, _, _, _ => by simp
  | (k, v) :: l, sl, h1, h2, h3 => by
    have h2' := List.nodup_cons.mp h2
    rw [List.forIn_cons, hf k v sl (h1 _ List.mem_cons_self) (h3 _ List.mem_cons_self), pure_bind]
    show forIn l (mk (sl ++ [(k, v)])) f = _
    rw [for_kw hf l _ (fun q hq => h1 q (List.mem_cons_of_mem _ hq)) h2'.2 fun q hq => by
      rw [List.lookup_append, h3 q (List.mem_cons_of_mem _ hq)]
      have : q.1 ≠ k := fun e => h2'.1 (List.mem_map.mpr ⟨q, hq, e⟩)
      have q2 : (q.1 == k) = false := by simpa using this
      simp [List.lookup_cons, q2]]
    simp
theorem bind_kw {x qual : Str} {body : List Stmt} {scope : Scope} {kV doc pm : Value} {an : Option Addr} {cdv ct : Value} {as : List Arg} {us ws : List Value} {ks : List Str} {perm : List Nat} (hp : permOk (as.map (·.arg)) us.length ks perm = true) (hn : (as.map (·.arg)).Nodup) (hk : ws.length = ks.length) :
    bindArgs (PySem.W.fnOf x qual ⟨[], as, none, [], [], none, []⟩ body scope .none kV doc pm an cdv ct) ⟨us, ks.zip ws⟩ = pure ((as.map (·.arg)).zip (permV (us ++ ws) perm)) := by
  unfold permOk at hp
  simp only [Bool.and_eq_true, decide_eq_true_eq, List.all_eq_true] at hp
  obtain ⟨p1, p2, p3, p4⟩ := hp
  have e : seqItems? Value.none = pure none := rfl
  have nd := List.nodup_append.mp p2
  have hz : ((as.map (·.arg)).zip us) = (((as.map (·.arg)).take us.length).zip us) := by
    rw [List.zip_eq_zip_take_min]
    conv => rhs; rw [List.zip_eq_zip_take_min]
    simp only [List.length_take, List.length_map, List.take_take] at p1 ⊢
    congr 1
    · congr 1; omega
    · congr 1; omega
  have hL : ((as.map (·.arg)).zip us) ++ ks.zip ws = ((as.map (·.arg)).take us.length ++ ks).zip (us ++ ws) := by
    rw [hz, List.zip_append]
    rw [List.length_take]; omega
  have kv : (ks.zip ws).map (·.1) = ks := by
    rw [List.map_fst_zip]; omega
  have pl : perm.length = as.length := by
    have := congrArg List.length p4
    simpa using this
  have look : ∀ (j : Nat) (n : Str), (as.map (·.arg))[j]? = some n → (((as.map (·.arg)).take us.length ++ ks).zip (us ++ ws)).lookup n = some ((us ++ ws).getD (perm.getD j 0) .none) := by
    intro j n hj
    have q := congrArg (fun l => l[j]?) p4
    simp only [List.getElem?_map] at q hj
    rw [hj] at q
    cases hpj : perm[j]? with
    | none => rw [hpj] at q; cases q
    | some i =>
      rw [hpj] at q
      have q : ((as.map (·.arg)).take us.length ++ ks)[i]? = some n := by simpa using q
      have hi : i < (us ++ ws).length := by
        have := (List.getElem?_eq_some_iff.mp q).1
        simp only [List.length_append, List.length_take, List.length_map] at this ⊢
        omega
      have e1 : perm.getD j 0 = i := by simp [List.getD, hpj]
      rw [e1]
      refine lookup_at p2 q ?_
      rw [List.getD, List.getElem?_eq_getElem hi]; rfl
  have f1 : ((as.map (·.arg)).filter fun n => ((((as.map (·.arg)).take us.length ++ ks).zip (us ++ ws)).lookup n).isNone) = [] := by
    rw [List.filter_eq_nil_iff]
    intro n hm
    obtain ⟨j, hj, rfl⟩ := List.mem_iff_getElem.mp hm
    rw [look j _ (List.getElem?_eq_getElem hj)]; simp
  have f2 : ((as.map (·.arg)).filterMap fun n => ((((as.map (·.arg)).take us.length ++ ks).zip (us ++ ws)).lookup n).map fun v => (n, v)) = (as.map (·.arg)).zip (permV (us ++ ws) perm) := by
    have gen : ∀ (l : List Str) (j : Nat), (as.map (·.arg)).drop j = l → (l.filterMap fun n => ((((as.map (·.arg)).take us.length ++ ks).zip (us ++ ws)).lookup n).map fun v => (n, v)) = l.zip ((permV (us ++ ws) perm).drop j) := by
      intro l
      induction l with
      | nil => intro j _; simp
      | cons n l ih =>
        intro j hd
        have hj : (as.map (·.arg))[j]? = some n := by
          have := congrArg (fun l => l[0]?) hd
          simpa using this
        have hjl : j < perm.length := by
          have := (List.getElem?_eq_some_iff.mp hj).1
          rw [pl]; simpa using this
        have hd2 : (as.map (·.arg)).drop (j + 1) = l := by
          have := congrArg (List.drop 1) hd
          simpa using this
        rw [List.filterMap_cons, look j n hj, ih (j + 1) hd2]
        have e2 : (permV (us ++ ws) perm).drop j = (us ++ ws).getD (perm.getD j 0) .none :: (permV (us ++ ws) perm).drop (j + 1) := by
          unfold permV
          rw [List.drop_eq_getElem_cons (by simpa using hjl)]
          simp [List.getD, List.getElem?_eq_getElem hjl]
        rw [e2]; rfl
    exact gen _ 0 rfl
  have t1 : ((as.map (·.arg)).take as.length) = as.map (·.arg) := by rw [List.take_of_length_le]; simp
  have hgt : ¬ as.length < us.length := by simp at p1; omega
  have d0 : ∀ q ∈ ks.zip ws, ((as.map (·.arg)).zip us).lookup q.1 = none := fun q hq => by
    rw [hz]
    refine lookup_zip_none fun hm => ?_
    have hk2 : q.1 ∈ ks := by rw [← kv]; exact List.mem_map.mpr ⟨q, hq, rfl⟩
    exact nd.2.2 _ hm _ hk2 rfl
  have d1 : ∀ q ∈ ks.zip ws, q.1 ∈ as.map (·.arg) := fun q hq => by
    have hk2 : q.1 ∈ ks := by rw [← kv]; exact List.mem_map.mpr ⟨q, hq, rfl⟩
    simpa using p3 _ hk2
  unfold bindArgs
  simp only [PySem.W.fnOf, List.map_nil, List.nil_append, List.length_map]
  rw [for_kw (mk := fun sl => (sl, ([] : List (Str × Value)))) (ps := as.map (·.arg)) (fun k v sl h1 h2 => ?_) (ks.zip ws) _ d1 (by rw [kv]; exact nd.2.1) d0]
  · rw [hL]
    simp only [pure_bind, List.append_nil, e, Option.getD_none, List.length_nil, Nat.zero_sub, List.drop_nil, Nat.sub_zero, hgt, Nat.lt_irrefl, decide_false, Bool.false_and, gt_iff_lt]
    rw [if_neg Bool.false_ne_true, t1, f1]
    simp only [List.isEmpty_nil, Bool.not_true, pure_bind]
    rw [if_neg Bool.false_ne_true]
    have d2 : ((as.map (·.arg)).drop as.length).zip ([] : List Value) = [] := List.zip_nil_right
    simp only [List.toList_toArray, List.drop_nil, List.zip_nil_right, List.forIn_nil, pure_bind]
    rw [if_neg (by simp)]
    exact congrArg pure f2
  · have c : (as.map (·.arg)).contains k = true := by simpa using h1
    simp only [c, Bool.true_or, if_true, h2, Option.isSome_none, Bool.false_eq_true, if_false]

/-! ### isinstance(x, (t, u)) -/
theorem tyx_of {K : PySem.W.Frag} {H : Hp} {L : Addr → Prop} {u : V} {x : D} (h : Vw K H L u x) : ∃ tn : String, TyX K H u (.type tn) ∧ ∀ t : Ty, kitB tn t.name = some (tyB t x) := by
  cases h with
  | non => exact ⟨"NoneType", .base .non, fun t => by cases t <;> decide +kernel⟩
  | bl b => exact ⟨"bool", .base (.bl b), fun t => by cases t <;> simp only [tyB] <;> decide +kernel⟩
  | int i => exact ⟨"int", .base (.int i), fun t => by cases t <;> simp only [tyB] <;> decide +kernel⟩
  | str z => exact ⟨"str", .base (.str z), fun t => by cases t <;> simp only [tyB] <;> decide +kernel⟩
  | tup _ q rr =>
    refine ⟨"tuple", ?_, fun t => by cases t <;> simp only [tyB] <;> decide +kernel⟩
    rcases q with (q | ⟨o, q⟩) | ⟨o, its, n, h1, h2, _⟩
    · exact .base (.tup q)
    · exact .fTuple q
    · exact .kTuple h1 h2
  | lst q rr =>
    refine ⟨"list", ?_, fun t => by cases t <;> simp only [tyB] <;> decide +kernel⟩
    rcases q with (q | ⟨o, q⟩) | ⟨o, its, n, h1, h2, _⟩
    · exact .base (.lst q)
    · exact .base (.frz q)
    · exact .kList h1 h2
theorem kit_tys {K : PySem.W.Frag} {tn : String} {x : D} (h : ∀ t : Ty, kitB tn t.name = some (tyB t x)) : ∀ ts : List Ty, PySem.W.kitAny K (.type tn) (ts.map fun t => Value.type t.name) = some (ts.any fun t => tyB t x)
  | [] => rfl
  | t :: ts => by
    rw [List.map_cons]
    unfold PySem.W.kitAny
    rw [kit_ty (h t), List.any_cons]
    cases tyB t x with
    | true => rfl
    | false => exact kit_tys h ts
def TysE (X : Cx) : List Expr → List Ty → Prop
  | [], [] => True
  | .Name n _ :: es, t :: ts => n = Str.ofString t.name ∧ Gl X (Str.ofString t.name) ∧ X.mg (Str.ofString t.name) = none ∧ TysE X es ts
  | _, _ => False
theorem pa_tys {X : Cx} : ∀ {es : List Expr} {ts : List Ty}, TysE X es ts → PA X es (fun σ H Q => Q (ts.map fun t => V.ty t.name) H)
  | [], [], _ => pa_nil
  | [], _ :: _, h => h.elim
  | .Name n q :: es, [], h => h.elim
  | .Name n q :: es, t :: ts, ⟨h1, h2, h3, h4⟩ => by
    subst h1
    have hb : bootBuiltins (Str.ofString t.name) = some (.type t.name) := by cases t <;> decide +kernel
    exact pa_cons (pe_bltn (v := .ty t.name) h2 h3 hb rfl (by cases t <;> decide +kernel) (by cases t <;> decide +kernel)) (pa_tys h4) (star_ns rfl _ _)
theorem cls_tys : ∀ ts : List Ty, Paired ClsV (ts.map fun t => V.ty t.name) (ts.map fun t => Value.type t.name)
  | [] => .nil
  | t :: ts => .cons (.ty _) (cls_tys ts)
theorem de_isiT {X : Cx} {W : WD} {a : Expr} {ma : Env → M Val} {pos : Pos} (ts : List Ty) {es : List Expr} {p tp : Pos} {k : Nat} (hg : Gl X "isinstance") (hm : X.mg "isinstance" = none) (ht : TysE X es ts) (hl : ts.length ≤ sizeLine) (hs : notStar a = true) (ha : DE X W a ma) :
    DE X W (.Call (.Name "isinstance" p) [a, .Tuple es k tp] [] pos) (fun ρ => do let v ← ma ρ; let x ← lookM v; pure (.d (.bool (ts.any fun t => tyB t x)))) := by
  refine PE.at (pe_callB call_isiT hg hm (by decide +kernel) (pa_cons ha (pa_cons (pe_tup (pa_tys ht)) pa_nil (star_ns rfl _ _)) (star_ns hs _ _)) (by decide) (by decide) (star_ns hs _ _) rfl) fun σ H Q Z φ ρ st S E g ok => ?_
  refine tE_bnd S E ok fun v φ1 st1 H1 u e1 S1 E1 g1 r1 ok1 => ?_
  obtain ⟨x, hx, ok2⟩ := ok1.bnd.look S1 g1
  refine ⟨by rw [List.length_map]; exact hl, fun q hq => ?_⟩
  have eL := Ext.laid (o := .tup (ts.map fun t => V.ty t.name)) S1 hq
  have SL := S1.laid (o := .tup (ts.map fun t => V.ty t.name)) hq
  obtain ⟨tn, ty, kb⟩ := tyx_of (look_vw SL (r1.ext eL) hx)
  refine ⟨u, q, _, _, _, _, rfl, upd_same, cls_tys ts, ty, kit_tys kb ts, fun g2 => ?_⟩
  exact (give_of ok2) _ _ eL SL (.bl _) g2
end RL

set_option Elab.async false
set_option linter.all false
set_option maxRecDepth 100000
set_option maxHeartbeats 2000000
namespace RL
open PySem PySem.Spec PyProof.Rows L2
/-! ### calls of the text's own defs -/
def RepX (T : Wor) (mg : Str → Option Value) (K : PySem.W.Frag) (Z : Addr → Prop) (φ : List Addr) (st : Sto) (H : Hp) (c : Nat) (x : D) (e : Value) (d : Option Addr) : Prop :=
  ∃ nm fld a dx u, T.exc[c]? = some (nm, fld) ∧ mg nm = some (.ref a) ∧ e = .ref a ∧ d = some dx ∧ H dx = some (.xd [(fld, u)]) ∧ ¬ LvZ Z φ st dx ∧ Rep K H (LvZ Z φ st) u x
def WE (T : Wor) (mg : Str → Option Value) (K : PySem.W.Frag) (E : XK) : WD := fun c x Z φ st H => ∀ e d, RepX T mg K Z φ st H c x e d → E e d H
def spN (T : Wor) (p : Pr) (mg : Str → Option Value) (K : PySem.W.Frag) (i n : Nat) : Sp := fun us H Q E =>
  (∃ fi, p.fns[i]? = some fi ∧ us.length = fi.arity) ∧ (Good K H → ∃ Z φ st vs, RelSt K Z φ st H ∧ RepVs K Z φ st H us vs ∧ Ok K (WE T mg K E) Z φ st H (callN p n i vs st) fun v φ' st' H' => ∀ u, RepV K Z φ' st' H' u v → Q u H')
theorem Ok.w {α : Type} {K : PySem.W.Frag} {W W' : WD} {Z : Addr → Prop} {φ : List Addr} {st : Sto} {H : Hp} {r : R α} {P : α → List Addr → Sto → Hp → Prop} (h : Ok K W Z φ st H r P) (k : ∀ c x Z φ st H, W c x Z φ st H → W' c x Z φ st H) : Ok K W' Z φ st H r P := by
  cases r with
  | ok a s => exact h
  | ex c x s => exact fun φ' H' e s' g => k _ _ _ _ _ _ (h φ' H' e s' g)
  | no => exact h
theorem callN_arity {p : Pr} {n i : Nat} {vs : List Val} {st : Sto} (h : callN p n i vs st ≠ .no) : ∃ fi, p.fns[i]? = some fi ∧ vs.length = fi.arity := by
  cases n with
  | zero => exact absurd rfl h
  | succ n =>
    unfold callN at h
    cases q : p.fns[i]? with
    | none => rw [q] at h; exact absurd rfl h
    | some fi =>
      rw [q] at h
      by_cases hl : vs.length = fi.arity
      · exact ⟨fi, rfl, hl⟩
      · simp only [if_neg hl] at h; exact absurd rfl h
section
variable {X : Cx} {W : WD} {T : Wor} {p : Pr} {n : Nat} {a b c : Expr} {ma mb mc : Env → M Val} {pos p2 : Pos}
theorem sp_of {Z : Addr → Prop} {φ : List Addr} {st : Sto} {H : Hp} {us : List V} {vs : List Val} {i : Nat} {Q : VK} {E : XK} (hw : ∀ c x Z φ st H, W c x Z φ st H → WE T X.mg X.K E c x Z φ st H) (S : RelSt X.K Z φ st H) (r : RepVs X.K Z φ st H us vs)
    (ok : Ok X.K W Z φ st H (callN p n i vs st) fun v φ' st' H' => ∀ u, RepV X.K Z φ' st' H' u v → Q u H') : spN T p X.mg X.K i n us H (fun u H1 => Good X.K H1 → Q u H1) E := by
  refine ⟨?_, fun _ => ⟨Z, φ, st, vs, S, r, (ok.w hw).imp fun v φ' st' H' _ _ _ q u r _ => q u r⟩⟩
  obtain ⟨fi, h1, h2⟩ := callN_arity (p := p) (n := n) (i := i) (vs := vs) (st := st) (fun e => by rw [e] at ok; exact ok)
  exact ⟨fi, h1, r.length.trans h2⟩
theorem de_call {i : Nat} {x : Str} {p' : Pos} {es : List Expr} {ms : Env → M (List Val)} {f : Addr} {fd : FuncData} {ps : List Str} {E : XK}
    (F : FnOk X.prog X.w X.K X.mg X.base (CX X.prog X.w) n f fd ps (spN T p X.mg X.K i n)) (hr : Room n X.A) (hg : Gl X x) (hm : X.mg x = some (.ref f)) (hk : PySem.W.keepIn X.K (.ref f) = true) (hb : Binds X.K fd ps []) (hx : Passes (CX X.prog X.w) X E)
    (hw : ∀ c x Z φ st H, W c x Z φ st H → WE T X.mg X.K E c x Z φ st H) (hdb : (x == ("__debug__" : Str)) = false) (hs : allNS es = true) (h0 : es = [] → ms = fun _ => pure []) (h : DA X W es ms) :
    DE X W (.Call (.Name x p') es [] pos) (fun ρ => do let vs ← ms ρ; callN p n i vs) := by
  cases es with
  | nil =>
    refine PE.at (pe_call0 F hr hg hm hk hb .nil hx hdb) fun σ H Q Z φ ρ st S E' g ok => ?_
    have ok1 := Ok.ret (Ok.bnd (m := (pure [] : M (List Val))) (by have e := h0 rfl; subst e; exact ok)) S g
    exact sp_of hw S .nil ok1
  | cons e es =>
    have hs1 := Bool.and_eq_true_iff.mp (show (notStar e && allNS es) = true from hs)
    refine PE.at (pe_call F hr hg hm hk hb .nil hx h hdb (star_ns hs1.1 _ _) (back_any hs1.2 _ _)) fun σ H Q Z φ ρ st S E' g ok => tA_bnd S E' ok fun vs φ1 st1 H1 us e1 S1 E1 g1 r1 ok1 => ?_
    rw [List.append_nil]
    exact sp_of hw S1 r1 ok1

/-! calls with keywords -/
abbrev DK (X : Cx) (W : WD) (kws : List Keyword) (m : Env → M (List Val)) : Prop := PK X kws (tA X.K W m)
theorem PK.goes {X : Cx} {kws : List Keyword} {t t' : TA} (h : PK X kws t) (k : ∀ σ H (Q : List V → Hp → Prop), t' σ H Q → Good X.K H → t σ H fun u H1 => Good X.K H1 → Q u H1) : PK X kws t' := by
  refine ⟨fun pos pins s σ H Q I q => ?_⟩
  exact thn (h.run pos pins s σ H _ I (k σ H Q q (Inv.good I))) fun us s1 ⟨xs, H1, I1, r1, q1⟩ => ⟨xs, H1, I1, r1, q1 (Inv.good I1)⟩
theorem dk_nil {X : Cx} {W : WD} : DK X W [] (fun _ => pure []) := PK.goes pk_nil fun σ H Q q g => by
  obtain ⟨Z, φ, ρ, st, S, E, ok⟩ := q g
  exact fun g' => ok.ret S g [] .nil
theorem dk_cons {X : Cx} {W : WD} {a : Expr} {ma : Env → M Val} {nm : Option Str} {kpos : Pos} {es : List Keyword} {ms : Env → M (List Val)} (ha : DE X W a ma) (hr : DK X W es ms) : DK X W (⟨nm, a, kpos⟩ :: es) (fun ρ => do let v ← ma ρ; let vs ← ms ρ; pure (v :: vs)) :=
  PK.goes (pk_cons ha hr) fun σ H Q q g => by
    obtain ⟨Z, φ, ρ, st, S, E, ok⟩ := q g
    refine tE_bnd S E ok fun v φ1 st1 H1 u e1 S1 E1 g1 r1 ok1 => tA_bnd S1 E1 ok1 fun vs φ2 st2 H2 us e2 S2 E2 g2 r2 ok2 => ?_
    exact fun g' => ok2.ret S2 g2 _ (.cons (r1.ext e2) r2)
theorem kw_names {pos : Pos} {env : PySem.Env} : ∀ {kws : List Keyword} {ks : List Str}, kws.map (·.arg) = ks.map some → (backToKw pos (keywordEach kws env)).map (·.1) = ks.map some
  | [], [], _ => rfl
  | [], _ :: _, h => by cases h
  | _ :: _, [], h => by cases h
  | ⟨nm, e, kp⟩ :: kws, k :: ks, h => by
    have h : nm :: kws.map (·.arg) = some k :: ks.map some := h
    injection h with h1 h2
    show nm :: (backToKw pos (keywordEach kws env)).map (·.1) = _
    rw [kw_names h2, h1]; rfl
theorem names_all {α : Type} {l : List (Option Str × α)} {ks : List Str} (h : l.map (·.1) = ks.map some) : l.all (·.1.isSome) = true ∧ l.filterMap (·.1) = ks ∧ l.any (·.1.isNone) = false := by
  induction l generalizing ks with
  | nil => cases ks <;> first | (refine ⟨rfl, rfl, rfl⟩) | cases h
  | cons a l ih =>
    cases ks with
    | nil => cases h
    | cons k ks =>
      have h : a.1 :: l.map (·.1) = some k :: ks.map some := h
      injection h with h1 h2
      obtain ⟨i1, i2, i3⟩ := ih h2
      refine ⟨by simp [h1, i1], by rw [List.filterMap_cons, h1, i2], by simp only [List.any_cons, h1, i3]; rfl⟩
def permU (vs : List V) (perm : List Nat) : List V := perm.map fun i => vs.getD i .non
theorem vals_getD {vs : List V} {us : List Value} (r : Vals vs us) (i : Nat) : RelV (vs.getD i .non) (us.getD i .none) := by
  induction r generalizing i with
  | nil => exact rfl
  | cons h r ih =>
    cases i with
    | zero => exact h
    | succ i => simpa using ih i
theorem perm_vals {vs : List V} {us : List Value} (r : Vals vs us) : ∀ perm : List Nat, Vals (permU vs perm) (permV us perm)
  | [] => .nil
  | i :: perm => .cons (vals_getD r i) (perm_vals r perm)
theorem permL_len {vs us : List Val} : ∀ {perm : List Nat} {us : List Val}, permL vs perm = some us → us.length = perm.length
  | [], us, h => by cases h; rfl
  | i :: r, us, h => by
    have h : (match vs[i]? with | some v => (permL vs r).map (v :: ·) | none => none) = some us := h
    cases q : vs[i]? with
    | none => rw [q] at h; cases h
    | some v =>
      rw [q] at h
      obtain ⟨us', h1, rfl⟩ := Option.map_eq_some_iff.mp h
      simp [permL_len (vs := vs) (us := us) h1]
theorem permL_rep {K : PySem.W.Frag} {Z : Addr → Prop} {φ : List Addr} {st : Sto} {H : Hp} {us : List V} {vs : List Val} (r : RepVs K Z φ st H us vs) : ∀ {perm : List Nat} {ws : List Val}, permL vs perm = some ws → RepVs K Z φ st H (permU us perm) ws
  | [], ws, h => by cases h; exact .nil
  | i :: p, ws, h => by
    have h : (match vs[i]? with | some v => (permL vs p).map (v :: ·) | none => none) = some ws := h
    cases q : vs[i]? with
    | none => rw [q] at h; cases h
    | some v =>
      rw [q] at h
      obtain ⟨us', h1, rfl⟩ := Option.map_eq_some_iff.mp h
      have get : ∀ {us : List V} {vs : List Val} (r : RepVs K Z φ st H us vs) (i : Nat) (v : Val), vs[i]? = some v → RepV K Z φ st H (us.getD i .non) v := by
        intro us vs r
        induction r with
        | nil => intro i v h; simp at h
        | cons h r ih =>
          intro i v h'
          cases i with
          | zero => simp at h'; subst h'; exact h
          | succ i => simpa using ih i v (by simpa using h')
      exact .cons (get r i v q) (permL_rep r h1)
theorem RepVs.app {K : PySem.W.Frag} {Z : Addr → Prop} {φ : List Addr} {st : Sto} {H : Hp} : ∀ {us ws : List V} {vs xs : List Val}, RepVs K Z φ st H us vs → RepVs K Z φ st H ws xs → RepVs K Z φ st H (us ++ ws) (vs ++ xs)
  | _, _, _, _, .nil, s => s
  | _, _, _, _, .cons h r, s => .cons h (RepVs.app r s)
theorem kbn_of {K : PySem.W.Frag} {fd : FuncData} {ps ks : List Str} {m : Nat} {perm : List Nat} (hS : SimpleFd fd ps) (hp : permOk ps m ks perm = true) : KBn K fd ps m ks (fun us ws => permV (us ++ ws) perm) (fun vs zs => permU (vs ++ zs) perm) := by
  obtain ⟨x, qual, as, body, scope, kV, doc, pm, an, cdv, ct, rfl, rfl, hn⟩ := hS
  exact ⟨fun s us ws X l1 l2 => .of_eq (bind_kw (by rw [l1]; exact hp) hn l2), fun r1 r2 => perm_vals (r1.append r2) perm⟩
theorem de_callK {X : Cx} {W : WD} {T : Wor} {p : Pr} {n : Nat} {pos : Pos} {i : Nat} {x : Str} {p' : Pos} {es : List Expr} {kws : List Keyword} {ms mk : Env → M (List Val)} {f : Addr} {fd : FuncData} {ps ks : List Str} {perm : List Nat} {E : XK}
    (F : FnOk X.prog X.w X.K X.mg X.base (CX X.prog X.w) n f fd ps (spN T p X.mg X.K i n)) (hr : Room n X.A) (hg : Gl X x) (hm : X.mg x = some (.ref f)) (hk : PySem.W.keepIn X.K (.ref f) = true) (hS : SimpleFd fd ps) (hx : Passes (CX X.prog X.w) X E)
    (hw : ∀ c x Z φ st H, W c x Z φ st H → WE T X.mg X.K E c x Z φ st H) (hdb : (x == ("__debug__" : Str)) = false) (hs : allNS es = true) (h0 : es = [] → ms = fun _ => pure []) (h : DA X W es ms) (hkw : DK X W kws mk) (hkn : kws.map (·.arg) = ks.map some) (hp : permOk ps es.length ks perm = true) :
    DE X W (.Call (.Name x p') es kws pos) (fun ρ => do let vs ← ms ρ; let ws ← mk ρ; let us ← ofO (kargs es.length ks.length vs ws perm); callN p n i us) := by
  obtain ⟨k1, k2, k3⟩ := names_all (kw_names (pos := pos) (env := X.env) hkn)
  have kb := kbn_of (K := X.K) hS hp
  have main : DE X W (.Call (.Name x p') es kws pos) (fun ρ => do let vs ← ms ρ; let ws ← mk ρ; let us ← ofO (kargs es.length ks.length vs ws perm); callN p n i us) := by
    have key : PE X (.Call (.Name x p') es kws pos) (tCallN es.length ks.length (spN T p X.mg X.K i n) (fun vs zs => permU (vs ++ zs) perm) E (tA X.K W ms) (tA X.K W mk)) := by
      cases es with
      | nil =>
        have e := h0 rfl
        refine ⟨fun pins s σ H Q I hh => ?_⟩
        have hh2 : tCallN 0 ks.length (spN T p X.mg X.K i n) (fun vs zs => permU (vs ++ zs) perm) E (tA X.K W ms) (tA X.K W mk) σ H Q := hh
        refine wpAny_Call_Name_kw (ld_glob I hg hm ?_ hdb)
        have hp0 := h.run pos pins s σ H _ I hh
        have hnil : tA X.K W mk σ H fun zs H2 => ([] : List V).length = 0 ∧ zs.length = ks.length ∧ spN T p X.mg X.K i n (permU ([] ++ zs) perm) H2 Q E := by
          intro g
          subst e
          obtain ⟨Z, φ, ρ, st, S, E', ok⟩ := hh2 g
          exact Ok.ret (a := ([] : List Val)) ok S g [] .nil g
        refine PySem.W.callWith_KW0 (h₀ := X.base) I.ok.mod.kin hk k1 (thn (hkw.run pos pins s σ H _ I hnil) fun ws s2 ⟨zs, H2, I2, rz, l1, l2, q2⟩ => ⟨I2.kIn, ?_⟩) (by simp only [starEach, backTo, List.map_nil, List.any_nil, Bool.false_or]; exact k3)
        rw [k2]
        exact run_fnN F hr kb hx I2 .nil rz l1 l2 q2
      | cons e es =>
        have hs1 := Bool.and_eq_true_iff.mp (show (notStar e && allNS es) = true from hs)
        refine pe_callN F hr hg hm hk kb hx h hkw k1 k2 hdb (star_ns hs1.1 _ _) ?_
        rw [k3, Bool.or_false]
        exact back_any hs _ _
    refine PE.at key fun σ H Q Z φ ρ st S E' g ok => ?_
    refine tA_bnd S E' ok fun vs φ1 st1 H1 us e1 S1 E1 g1 r1 ok1 => tA_bnd S1 E1 ok1 fun ws φ2 st2 H2 us2 e2 S2 E2 g2 r2 ok2 => ?_
    obtain ⟨z, hz, ok3⟩ := (Ok.bnd ok2).ofO S2 g2
    unfold kargs at hz
    obtain ⟨⟨l1, l2⟩, hz⟩ : (vs.length = es.length ∧ ws.length = ks.length) ∧ permL (vs ++ ws) perm = some z := by
      by_cases q : vs.length = es.length ∧ ws.length = ks.length
      · rw [if_pos q] at hz; exact ⟨q, hz⟩
      · rw [if_neg q] at hz; cases hz
    exact ⟨by rw [r1.length]; exact l1, by rw [r2.length]; exact l2, sp_of hw S2 (permL_rep ((r1.ext e2).app r2) hz) ok3⟩
  exact main
/-! ### what is walked -/
structure Wk (K : PySem.W.Frag) (Z : Addr → Prop) (φ : List Addr) (st : Sto) (H : Hp) (xs : List D) (J : L2.It) : Prop where
  ex : ∃ (G : Hp → Prop) (Y : Nat → Hp → V → Hp → Prop), L2.Walk J xs.length G Y ∧ (∀ Z' φ' st' H', Kp Z φ st H Z' φ' st' H' → G H') ∧
    ∀ i u Hi Hi' Z' φ' st', i < xs.length → Kp Z φ st H Z' φ' st' Hi → RelSt K Z' φ' st' Hi → Y i Hi u Hi' → Ext Z' φ' st' Hi φ' st' Hi' ∧ RelSt K Z' φ' st' Hi' ∧ ∃ x, xs[i]? = some x ∧ Rep K Hi' (LvZ Z' φ' st') u x
def tI (K : PySem.W.Frag) (W : WD) (m : Env → M (List D)) : TI := fun σ H R => Good K H → ∃ Z φ ρ st, RelSt K Z φ st H ∧ RelE K Z φ st H ρ σ ∧ Ok K W Z φ st H (m ρ st) fun xs φ' st' H' => ∀ J, Wk K Z φ' st' H' xs J → xs.length ≤ sizeLine → R J H'
abbrev DI (X : Cx) (W : WD) (tg e : Expr) (m : Env → M (List D)) : Prop := PI X tg e (tI X.K W m)
theorem PI.goes {tg e : Expr} {t t' : TI} (h : PI X tg e t) (k : ∀ σ H (R : L2.It → Hp → Prop), t' σ H R → Good X.K H → t σ H fun J H1 => Good X.K H1 → R J H1) : PI X tg e t' := by
  refine ⟨fun pins s σ H R I q => ?_⟩
  exact thn (h.run pins s σ H _ I (k σ H R q (Inv.good I))) fun v s1 h1 => thn h1 fun itv s2 ⟨it, fp, tn, J, H', e, I', T, t0, f, r⟩ => ⟨it, fp, tn, J, H', e, I', T, t0, f, r (Inv.good I')⟩
/-- any value that may be walked -/
def iAny (K : PySem.W.Frag) (te : TE) : TI := fun σ H R => te σ H fun u H1 => (∃ a, u = .ref a ∧ (∃ xs, SqL K H1 a xs) ∧ R (Itl K a) H1) ∨ (∃ a, u = .ref a ∧ (∃ xs, SqT K H1 a xs) ∧ R (Itt K a) H1) ∨ (∃ x, u = .str x ∧ R (Its x) H1) ∨ ∃ a lo hi, u = .ref a ∧ H1 a = some (.rng lo hi) ∧ (-(2 ^ 62) ≤ lo ∧ lo < 2 ^ 62 ∧ -(2 ^ 62) ≤ hi ∧ hi < 2 ^ 62) ∧ R (Itr lo (hi - lo).toNat) H1
theorem pi_any {tg l : Expr} {tl : TE} (hl : PE X l tl) : PI X tg l (iAny X.K tl) := by
  refine ⟨fun pins s σ H R I h => ?_⟩
  refine thn (hl.run pins s σ H _ I h) fun v s1 ⟨x, H1, I1, r1, q1⟩ => ?_
  rcases q1 with ⟨a, e, ⟨xs, hq⟩, q⟩ | ⟨a, e, ⟨xs, hq⟩, q⟩ | ⟨z, e, q⟩ | ⟨a, lo, hi, e, ha, ⟨b1, b2, b3, b4⟩, q⟩
  · subst e
    cases r1
    obtain ⟨its, rv, p, hz⟩ := I1.list hq
    refine wpAny_pyIter_list p.isList ?_
    refine ⟨s1.heap.objs.size, [s1.heap.objs.size], _, _, H1, rfl, I1.kept (t' := s1.toks) fun b o e => Heap.get?_push_of_some _ e, turn_list a _, ⟨_, Heap.get?_push_size _ rfl, rfl, rfl⟩, fun b hb => ?_, q⟩
    have e : b = s1.heap.objs.size := by simpa using hb
    subst e
    exact I1.fpOk (Nat.le_refl _) (I1.hok.fresh (Nat.le_refl _))
  · subst e
    cases r1
    obtain ⟨its, rv, p, hz⟩ := I1.tuple hq
    refine wpAny_pyIter_tuple (show s1.heap.IsTuple a its.toArray from p) ?_
    refine ⟨s1.heap.objs.size, [s1.heap.objs.size], _, _, H1, rfl, I1.kept (t' := s1.toks) fun b o e => Heap.get?_push_of_some _ e, turn_tuple a _, ⟨_, Heap.get?_push_size _ rfl, rfl, rfl⟩, fun b hb => ?_, q⟩
    have e : b = s1.heap.objs.size := by simpa using hb
    subst e
    exact I1.fpOk (Nat.le_refl _) (I1.hok.fresh (Nat.le_refl _))
  · subst e
    obtain ⟨t, rfl⟩ := r1
    cases ha : z.cps.all (· < 128)
    · exact wpAny_pyIter_wide ha (pi_one (tk := s1.toks) I1 _ (turn_str _ z t "str_iterator" (.inr rfl)) ⟨_, Heap.get?_push_size _ rfl, rfl, rfl⟩ q)
    · exact wpAny_pyIter_ascii ha (pi_one (tk := s1.toks) I1 _ (turn_str _ z t "str_ascii_iterator" (.inl rfl)) ⟨_, Heap.get?_push_size _ rfl, rfl, rfl⟩ q)
  · subst e
    cases r1
    obtain ⟨t, uu, vv, hg⟩ := (show ObjOk X.prog X.w H1 s1.heap a (.rng lo hi) from I1.hok a _ ha)
    have hr : IsRange s1.heap a lo hi 1 t uu vv := hg
    refine wpAny_pyIter_range hr (small_one b1 b2 b3 b4) ?_
    refine pi_one (tk := s1.toks) I1 _ (turn_range _ lo (hi - lo).toNat) ?_ q
    have e1 : lo + ((0 : Nat) : Int) * 1 = lo := by simp
    have e2 : (((hi - lo).toNat : Nat) : Int) - ((0 : Nat) : Int) = Builtin.Range.rangeSize lo hi 1 := by rw [rangeSize_one]; split <;> omega
    show IsRangeIter _ _ (lo + ((0 : Nat) : Int) * 1) ((((hi - lo).toNat : Nat) : Int) - ((0 : Nat) : Int)) 1
    rw [e1, e2]
    exact Heap.get?_push_size _ rfl
section
variable {K : PySem.W.Frag} {Z : Addr → Prop} {φ : List Addr} {st : Sto} {H : Hp}
/-- a list that is plain data, or the script -/
inductive Fix (K : PySem.W.Frag) (H : Hp) (L : Addr → Prop) : Addr → List V → List D → Prop
  | d {a : Addr} {us : List V} {xs : List D} : H a = some (.lst us) → ¬ L a → Reps K H L us xs → Fix K H L a us xs
  | s {a : Addr} {ns : List Int} : ScL K H L a ns → True → Fix K H L a (ns.map V.int) (ns.map PyData.int)
theorem Fix.sq {L : Addr → Prop} {a : Addr} {us : List V} {xs : List D} (f : Fix K H L a us xs) : SqL K H a us ∧ Reps K H L us xs := by
  cases f with
  | d h n r => exact ⟨SqL.of h, r⟩
  | s h n => exact ⟨h.sq, Reps.ofInts _⟩
theorem Fix.kp {Z' : Addr → Prop} {φ' : List Addr} {st' : Sto} {H' : Hp} {a : Addr} {us : List V} {xs : List D} (f : Fix K H (LvZ Z φ st) a us xs) (e : Kp Z φ st H Z' φ' st' H') : Fix K H' (LvZ Z' φ' st') a us xs := by
  cases f with
  | d h n r => exact .d (e _ _ h n).1 (e _ _ h n).2 (r.mono e)
  | s h n => exact .s (h.mono e) n
theorem Fix.ext {φ' : List Addr} {st' : Sto} {H' : Hp} {a : Addr} {us : List V} {xs : List D} (f : Fix K H (LvZ Z φ st) a us xs) (e : Ext Z φ st H φ' st' H') : Fix K H' (LvZ Z φ' st') a us xs := f.kp e.keep
theorem Wk.lst {a : Addr} {us : List V} {xs : List D} (f : Fix K H (LvZ Z φ st) a us xs) : Wk K Z φ st H xs (Itl K a) := by
  have hl : us.length = xs.length := f.sq.2.length
  refine ⟨fun H => SqL K H a us, _, hl ▸ walk_list, fun Z' φ' st' H' e => (f.kp e).sq.1, fun i u Hi Hi' Z' φ' st' hi e S y => ?_⟩
  obtain ⟨rfl, hu⟩ := y
  obtain ⟨x, h1, h2⟩ := (f.kp e).sq.2.get' hu
  exact ⟨.refl, S, x, h1, h2⟩
/-- a tuple -/
theorem Rep.tup_sq {L : Addr → Prop} {a : Addr} {xs : List D} (r : Rep K H L (.ref a) (.tuple xs)) : ∃ us, SqT K H a us ∧ Reps K H L us xs := by
  cases r with
  | tup h n r => exact ⟨_, SqT.of h, r⟩
  | tupK h r => exact ⟨_, h.sq, r⟩
theorem Wk.tup {a : Addr} {xs : List D} (r : Rep K H (LvZ Z φ st) (.ref a) (.tuple xs)) : Wk K Z φ st H xs (Itt K a) := by
  cases r with
  | @tup _ us _ h n r =>
    have hl := r.length
    refine ⟨fun H => SqT K H a us, _, hl ▸ walk_tup, fun Z' φ' st' H' e => SqT.of (e _ _ h n).1, fun i u Hi Hi' Z' φ' st' hi e S y => ?_⟩
    obtain ⟨rfl, hu⟩ := y
    obtain ⟨x, h1, h2⟩ := (r.mono e).get' hu
    exact ⟨.refl, S, x, h1, h2⟩
  | @tupK _ us _ h r =>
    have hl := r.length
    refine ⟨fun H => SqT K H a us, _, hl ▸ walk_tup, fun Z' φ' st' H' e => h.sq, fun i u Hi Hi' Z' φ' st' hi e S y => ?_⟩
    obtain ⟨rfl, hu⟩ := y
    obtain ⟨x, h1, h2⟩ := (r.mono e).get' hu
    exact ⟨.refl, S, x, h1, h2⟩
theorem Wk.str {z : Str} : Wk K Z φ st H (z.cps.toList.map fun c => .str ⟨#[c]⟩) (Its z) := by
  have hl : (z.cps.toList.map fun c => PyData.str ⟨#[c]⟩).length = z.cps.size := by simp
  refine ⟨fun _ => True, _, hl ▸ walk_str, fun _ _ _ _ _ => trivial, fun i u Hi Hi' Z' φ' st' hi e S y => ?_⟩
  obtain ⟨rfl, c, hc, rfl⟩ := y
  exact ⟨.refl, S, .str ⟨#[c]⟩, by simp [hc], .str _⟩
theorem Wk.rng {lo hi : Int} : Wk K Z φ st H (rgD lo hi) (Itr lo (hi - lo).toNat) := by
  have hl : (rgD lo hi).length = (hi - lo).toNat := by unfold rgD; simp
  have w : L2.Walk (Itr lo (hi - lo).toNat) (rgD lo hi).length (fun _ => True) (YFn fun i => .int (lo + i)) := by rw [hl]; exact walk_range
  refine ⟨fun _ => True, _, w, fun _ _ _ _ _ => trivial, fun i u Hi Hi' Z' φ' st' hi' e S y => ?_⟩
  obtain ⟨rfl, rfl⟩ := y
  refine ⟨.refl, S, .int (lo + i), ?_, .int _⟩
  unfold rgD
  rw [List.getElem?_map, List.getElem?_range (by omega)]
  rfl
theorem zipIdx_get {α : Type} (xs : List α) (i : Nat) : xs.zipIdx[i]? = (xs[i]?).map fun x => (x, i) := by
  rw [List.getElem?_zipIdx]; simp
theorem Wk.enum {a : Addr} {us : List V} {xs : List D} (f : Fix K H (LvZ Z φ st) a us xs) : Wk K Z φ st H (enumD xs) (Ite K a) := by
  have hl : us.length = (enumD xs).length := by unfold enumD; simp [f.sq.2.length]
  refine ⟨fun H => SqL K H a us, _, hl ▸ walk_enum, fun Z' φ' st' H' e => (f.kp e).sq.1, fun i u Hi Hi' Z' φ' st' hi e S y => ?_⟩
  obtain ⟨T, x, z, rfl, hT, rfl, hx, hz⟩ := y
  cases hx
  obtain ⟨d, h1, h2⟩ := (f.kp e).sq.2.get' hz
  refine ⟨Ext.laid S hT, S.laid hT, .tuple [.int (i : Nat), d], ?_, .tup upd_same (S.nlive hT) (.cons (.int _) (.cons (h2.ext (Ext.laid S hT)) .nil))⟩
  unfold enumD
  rw [List.getElem?_map, zipIdx_get, h1]
  rfl
theorem Wk.zip {a b : Addr} {us ws : List V} {xs ys : List D} (f : Fix K H (LvZ Z φ st) a us xs) (f2 : Fix K H (LvZ Z φ st) b ws ys) : Wk K Z φ st H (zipD xs ys) (Itz K a b) := by
  have hl : (zipD xs ys).length = min us.length ws.length := by unfold zipD; simp [f.sq.2.length, f2.sq.2.length]
  refine ⟨fun H => SqL K H a us ∧ SqL K H b ws, _, walk_zip hl, fun Z' φ' st' H' e => ⟨(f.kp e).sq.1, (f2.kp e).sq.1⟩, fun i u Hi Hi' Z' φ' st' hi e S y => ?_⟩
  obtain ⟨T, x, z, rfl, hT, rfl, hx, hz⟩ := y
  obtain ⟨d, h1, h2⟩ := (f.kp e).sq.2.get' hx
  obtain ⟨d2, h3, h4⟩ := (f2.kp e).sq.2.get' hz
  refine ⟨Ext.laid S hT, S.laid hT, .tuple [d, d2], ?_, .tup upd_same (S.nlive hT) (.cons (h2.ext (Ext.laid S hT)) (.cons (h4.ext (Ext.laid S hT)) .nil))⟩
  unfold zipD
  rw [List.getElem?_zipWith, h1, h3]
end
theorem walk_zipT {K : PySem.W.Frag} {a b : Addr} {xs ys : List V} {n : Nat} (hn : n = min xs.length ys.length) : L2.Walk (RZ.ItzT K a b) n (fun H => SqT K H a xs ∧ SqT K H b ys) (YPair (fun i => xs[i]?) (fun i => ys[i]?)) := by
  subst hn
  refine ⟨fun i _ hi q => ?_, fun _ q => ⟨xs, ys, q.1, q.2, by omega⟩, fun i H v H' _ q y => ?_⟩
  · have h1 : i < xs.length := by omega
    have h2 : i < ys.length := by omega
    exact ⟨xs, ys, xs[i], ys[i], q.1, q.2, by simp [h1], by simp [h2]⟩
  · obtain ⟨T, x, z, h1, h2, h3, h4, h5⟩ := y
    exact ⟨T, x, z, h1, h2, h3, h4 xs q.1, h5 ys q.2⟩
/-- a tuple that stays -/
inductive FixT (K : PySem.W.Frag) (H : Hp) (L : Addr → Prop) : Addr → List V → List D → Prop
  | d {a : Addr} {us : List V} {xs : List D} : H a = some (.tup us) → ¬ L a → Reps K H L us xs → FixT K H L a us xs
  | k {a : Addr} {us : List V} {xs : List D} : KTup K a us → Reps K H L us xs → FixT K H L a us xs
section
variable {K : PySem.W.Frag} {Z : Addr → Prop} {φ : List Addr} {st : Sto} {H : Hp}
theorem FixT.sq {L : Addr → Prop} {a : Addr} {us : List V} {xs : List D} (f : FixT K H L a us xs) : SqT K H a us ∧ Reps K H L us xs := by
  cases f with
  | d h n r => exact ⟨SqT.of h, r⟩
  | k h r => exact ⟨h.sq, r⟩
theorem FixT.kp {Z' : Addr → Prop} {φ' : List Addr} {st' : Sto} {H' : Hp} {a : Addr} {us : List V} {xs : List D} (f : FixT K H (LvZ Z φ st) a us xs) (e : Kp Z φ st H Z' φ' st' H') : FixT K H' (LvZ Z' φ' st') a us xs := by
  cases f with
  | d h n r => exact .d (e _ _ h n).1 (e _ _ h n).2 (r.mono e)
  | k h r => exact .k h (r.mono e)
theorem FixT.of {L : Addr → Prop} {a : Addr} {xs : List D} (r : Rep K H L (.ref a) (.tuple xs)) : ∃ us, FixT K H L a us xs := by
  cases r with
  | tup h n r => exact ⟨_, .d h n r⟩
  | tupK h r => exact ⟨_, .k h r⟩
theorem Wk.zipT {a b : Addr} {us ws : List V} {xs ys : List D} (f : FixT K H (LvZ Z φ st) a us xs) (f2 : FixT K H (LvZ Z φ st) b ws ys) : Wk K Z φ st H (zipD xs ys) (RZ.ItzT K a b) := by
  have hl : (zipD xs ys).length = min us.length ws.length := by unfold zipD; simp [f.sq.2.length, f2.sq.2.length]
  refine ⟨fun H => SqT K H a us ∧ SqT K H b ws, _, walk_zipT hl, fun Z' φ' st' H' e => ⟨(f.kp e).sq.1, (f2.kp e).sq.1⟩, fun i u Hi Hi' Z' φ' st' hi e S y => ?_⟩
  obtain ⟨T, x, z, rfl, hT, rfl, hx, hz⟩ := y
  obtain ⟨d, h1, h2⟩ := (f.kp e).sq.2.get' hx
  obtain ⟨d2, h3, h4⟩ := (f2.kp e).sq.2.get' hz
  refine ⟨Ext.laid S hT, S.laid hT, .tuple [d, d2], ?_, .tup upd_same (S.nlive hT) (.cons (h2.ext (Ext.laid S hT)) (.cons (h4.ext (Ext.laid S hT)) .nil))⟩
  unfold zipD
  rw [List.getElem?_zipWith, h1, h3]
end
/-- a list that a loop walks, frozen -/
theorem listOf_fix {Z : Addr → Prop} {φ : List Addr} {st : Sto} {H : Hp} {u : V} {v : Val} {P : List D → List Addr → Sto → Hp → Prop} (S : RelSt X.K Z φ st H) (g : Good X.K H) (r : RepV X.K Z φ st H u v) (h : Ok X.K W Z φ st H (listOf v st) P) :
    ∃ a us xs st', u = .ref a ∧ Ext Z φ st H φ st' H ∧ RelSt X.K Z φ st' H ∧ Fix X.K H (LvZ Z φ st') a us xs ∧ P xs φ st' H := by
  cases r with
  | d r =>
    cases r with
    | lst h1 n r => exact ⟨_, _, _, st, rfl, .refl, S, .d h1 n r, Ok.ret h S g⟩
    | _ => exact False.elim h
  | s h1 n => exact ⟨_, _, _, st, rfl, .refl, S, .s h1 n, Ok.ret h S g⟩
  | rs _ _ _ => exact False.elim h
  | g _ _ => exact False.elim h
  | @r a n e =>
    have h : Ok X.K W Z φ st H (match st[n]? with | some c => .ok c.xs (freezeAt st n) | none => .no) P := h
    cases q : st[n]? with
    | none => rw [q] at h; exact False.elim h
    | some c =>
      rw [q] at h
      have fr := S.frozen e q
      cases fr with
      | lst h1 nn r => exact ⟨_, _, _, freezeAt st n, rfl, Ext.freeze, S.freeze, .d h1 nn r, h φ H Ext.freeze S.freeze g⟩
theorem Good.lst {K : PySem.W.Frag} {H : Hp} {L : Addr → Prop} {a : Addr} {us : List V} {xs : List D} (g : Good K H) (f : Fix K H L a us xs) : xs.length ≤ sizeLine := by
  rw [← f.sq.2.length]; exact g _ _ (.inl f.sq.1)
theorem Good.tup {K : PySem.W.Frag} {H : Hp} {L : Addr → Prop} {a : Addr} {us : List V} {xs : List D} (g : Good K H) (f : FixT K H L a us xs) : xs.length ≤ sizeLine := by
  rw [← f.sq.2.length]; exact g _ _ (.inr f.sq.1)
theorem PI.at {tg e : Expr} {t : TI} (h : PI X tg e t) {m : Env → M (List D)}
    (k : ∀ σ H (R : L2.It → Hp → Prop) Z φ ρ st, RelSt X.K Z φ st H → RelE X.K Z φ st H ρ σ → Good X.K H → Ok X.K W Z φ st H (m ρ st) (fun xs φ' st' H' => ∀ J, Wk X.K Z φ' st' H' xs J → xs.length ≤ sizeLine → R J H') → t σ H fun J H1 => Good X.K H1 → R J H1) : DI X W tg e m :=
  PI.goes h fun σ H R q g => let ⟨Z, φ, ρ, st, S, E, ok⟩ := q g; k σ H R Z φ ρ st S E g ok
theorem di_seq {tg : Expr} (ha : DE X W a ma) : DI X W tg a (fun ρ => do let v ← ma ρ; itemsOf v) :=
  PI.at (pi_any ha) fun σ H R Z φ ρ st S E g ok => tE_bnd S E ok fun v φ1 st1 H1 u e1 S1 E1 g1 r1 ok1 => by
    by_cases hl : ∃ P, Ok X.K W Z φ1 st1 H1 (listOf v st1) P
    · have e : itemsOf v st1 = listOf v st1 := by
        obtain ⟨P, hl⟩ := hl
        cases v with
        | d x => cases x <;> first | rfl | exact False.elim hl
        | r n => rfl
        | s ns => rfl
        | rs ns => exact False.elim hl
        | g _ _ => exact False.elim hl
      rw [e] at ok1
      obtain ⟨a', us, xs, st', rfl, _, S', f, q⟩ := listOf_fix S1 g1 r1 ok1
      exact .inl ⟨a', rfl, ⟨us, f.sq.1⟩, fun g2 => q _ (Wk.lst f) (Good.lst g2 f)⟩
    · cases r1 with
      | d r =>
        cases r with
        | lst h1 n r => exact absurd ⟨_, ok1⟩ hl
        | str z =>
          have ok1 : Ok X.K W Z φ1 st1 H1 ((if z.cps.size ≤ sizeLine then pure (z.cps.toList.map fun c => .str ⟨#[c]⟩) else no : M (List D)) st1) _ := ok1
          by_cases hz : z.cps.size ≤ sizeLine
          · rw [if_pos hz] at ok1
            exact .inr (.inr (.inl ⟨z, rfl, fun g2 => ok1.ret S1 g1 _ Wk.str (by simpa using hz)⟩))
          · rw [if_neg hz] at ok1; exact False.elim ok1
        | tup h n r => exact .inr (.inl ⟨_, rfl, ⟨_, SqT.of h⟩, fun g2 => Ok.ret ok1 S1 g1 _ (Wk.tup (.tup h n r)) (Good.tup g2 (.d h n r))⟩)
        | tupK h r => exact .inr (.inl ⟨_, rfl, ⟨_, h.sq⟩, fun g2 => Ok.ret ok1 S1 g1 _ (Wk.tup (.tupK h r)) (Good.tup g2 (.k h r))⟩)
        | _ => exact False.elim ok1
      | r e => exact absurd ⟨_, ok1⟩ hl
      | s h n => exact absurd ⟨_, ok1⟩ hl
      | rs _ _ _ => exact False.elim ok1
      | @g a lo hi hh hn =>
        have ok1 : Ok X.K W Z φ1 st1 H1 ((if rgOk lo hi then pure (rgD lo hi) else no : M (List D)) st1) _ := ok1
        by_cases hz : rgOk lo hi
        · rw [if_pos hz] at ok1
          exact .inr (.inr (.inr ⟨a, lo, hi, rfl, hh, ⟨hz.1, hz.2.1, hz.2.2.1, hz.2.2.2.1⟩, fun g2 => ok1.ret S1 g1 _ Wk.rng (by rw [show (rgD lo hi).length = (hi - lo).toNat by unfold rgD; simp]; exact hz.2.2.2.2)⟩))
        · rw [if_neg hz] at ok1; exact False.elim ok1
theorem rg_len (a b : Int) : (rgD a b).length = (b - a).toNat := by unfold rgD; simp
theorem di_rng1 {tg : Expr} {p' : Pos} (hg : Gl X "range") (hm : X.mg "range" = none) (hs : notStar a = true) (ha : DE X W a ma) : DI X W tg (.Call (.Name "range" p') [a] [] pos) (fun ρ => do let v ← ma ρ; let x ← lookM v; rng1K x) :=
  PI.at (pi_range1 hg hm (pa_cons ha pa_nil (star_ns hs _ _)) (star_ns hs _ _)) fun σ H R Z φ ρ st S E g ok => by
    refine tE_bnd S E ok fun v φ1 st1 H1 u e1 S1 E1 g1 r1 ok1 => ?_
    obtain ⟨x, hx, ok2⟩ := ok1.bnd.look S1 g1
    cases look_vw S1 r1 hx with
    | int j =>
      have ok2 : Ok X.K W Z φ1 st1 H1 ((if rgOk 0 j then pure (rgD 0 j) else no : M (List D)) st1) _ := ok2
      by_cases hj : rgOk 0 j
      · rw [if_pos hj] at ok2
        refine ⟨j, rfl, hj.2.2.1, hj.2.2.2.1, fun g2 => ?_⟩
        have q := ok2.ret S1 g1 (Itr 0 (j - 0).toNat) Wk.rng (by rw [rg_len]; exact hj.2.2.2.2)
        rw [Int.sub_zero] at q
        exact q
      · rw [if_neg hj] at ok2; exact False.elim ok2
    | _ => exact False.elim ok2
theorem di_rng2 {tg : Expr} {p' : Pos} (hg : Gl X "range") (hm : X.mg "range" = none) (hs : notStar a = true) (hs2 : notStar b = true) (ha : DE X W a ma) (hb : DE X W b mb) : DI X W tg (.Call (.Name "range" p') [a, b] [] pos) (fun ρ => do let v ← ma ρ; let w ← mb ρ; let x ← lookM v; let y ← lookM w; rng2K x y) :=
  PI.at (pi_range2 hg hm (pa_cons ha (pa_cons hb pa_nil (star_ns hs2 _ _)) (star_ns hs _ _)) (by rw [star_ns hs, star_ns hs2]; rfl) (by rw [star_ns hs2]; rfl)) fun σ H R Z φ ρ st S E g ok => by
    refine tE_bnd S E ok fun v φ1 st1 H1 u e1 S1 E1 g1 r1 ok1 => tE_bnd S1 E1 ok1 fun w φ2 st2 H2 u2 e2 S2 E2 g2 r2 ok2 => ?_
    obtain ⟨x, hx, ok3⟩ := ok2.bnd.look S2 g2
    obtain ⟨y, hy, ok4⟩ := ok3.bnd.look S2 g2
    cases look_vw S2 (r1.ext e2) hx with
    | int i =>
      cases look_vw S2 r2 hy with
      | int j =>
        have ok4 : Ok X.K W Z φ2 st2 H2 ((if rgOk i j then pure (rgD i j) else no : M (List D)) st2) _ := ok4
        by_cases hj : rgOk i j
        · rw [if_pos hj] at ok4
          exact ⟨i, j, rfl, ⟨hj.1, hj.2.1, hj.2.2.1, hj.2.2.2.1⟩, fun g3 => ok4.ret S2 g2 _ Wk.rng (by rw [rg_len]; exact hj.2.2.2.2)⟩
        · rw [if_neg hj] at ok4; exact False.elim ok4
      | _ => exact False.elim ok4
    | _ => cases look_vw S2 r2 hy <;> exact False.elim ok4
theorem di_enum {elts : List Expr} {kk : Nat} {tpos p' : Pos} (hg : Gl X "enumerate") (hm : X.mg "enumerate" = none) (hs : notStar a = true) (ha : DE X W a ma) :
    DI X W (.Tuple elts kk tpos) (.Call (.Name "enumerate" p') [a] [] pos) (fun ρ => do let v ← ma ρ; let xs ← listOf v; pure (enumD xs)) :=
  PI.at (pi_enum hg hm (pa_cons ha pa_nil (star_ns hs _ _)) (star_ns hs _ _)) fun σ H R Z φ ρ st S E g ok => by
    refine tE_bnd S E ok fun v φ1 st1 H1 u e1 S1 E1 g1 r1 ok1 => ?_
    obtain ⟨a', us, xs, st', rfl, _, S', f, q⟩ := listOf_fix S1 g1 r1 ok1.bnd
    exact ⟨a', us, rfl, f.sq.1, fun g2 => q.ret S' g1 _ (Wk.enum f) (by unfold enumD; simp; exact Good.lst g2 f)⟩
theorem di_zip {elts : List Expr} {kk : Nat} {tpos p' : Pos} (hg : Gl X "zip") (hm : X.mg "zip" = none) (hs : notStar a = true) (hs2 : notStar b = true) (ha : DE X W a ma) (hb : DE X W b mb) :
    DI X W (.Tuple elts kk tpos) (.Call (.Name "zip" p') [a, b] [] pos) (fun ρ => do let v ← ma ρ; let w ← mb ρ; let p ← seqsOf v w; pure (zipD p.1 p.2)) :=
  PI.at (RZ.pi_zipA hg hm (pa_cons ha (pa_cons hb pa_nil (star_ns hs2 _ _)) (star_ns hs _ _)) (star_ns hs _ _) (by rw [star_ns hs2]; rfl)) fun σ H R Z φ ρ st S E g ok => by
    refine tE_bnd S E ok fun v φ1 st1 H1 u e1 S1 E1 g1 r1 ok1 => tE_bnd S1 E1 ok1 fun w φ2 st2 H2 u2 e2 S2 E2 g2 r2 ok2 => ?_
    have r1' := r1.ext e2
    have lists : (∀ (h : seqsOf v w st2 = (do let xs ← listOf v; let ys ← listOf w; pure (xs, ys) : M (List D × List D)) st2), ∃ a b xs ys, [u, u2] = [V.ref a, V.ref b] ∧ ((SqL X.K H2 a xs ∧ SqL X.K H2 b ys ∧ (Good X.K H2 → R (Itz X.K a b) H2)) ∨ (SqT X.K H2 a xs ∧ SqT X.K H2 b ys ∧ (Good X.K H2 → R (RZ.ItzT X.K a b) H2)))) := by
      intro h
      have ok3 := Ok.bnd ok2
      rw [h] at ok3
      obtain ⟨a', us, xs, st3, rfl, e3, S3, f3, q3⟩ := listOf_fix S2 g2 r1' (Ok.bnd ok3)
      obtain ⟨b', ws, ys, st4, rfl, e4, S4, f4, q4⟩ := listOf_fix S3 g2 (r2.ext e3) (Ok.bnd q3)
      have q5 := (Ok.ret q4 S4 g2).ret S4 g2
      have f3' := f3.ext e4
      refine ⟨a', b', us, ws, rfl, .inl ⟨f3'.sq.1, f4.sq.1, fun g3 => q5 _ (Wk.zip f3' f4) ?_⟩⟩
      unfold zipD
      rw [List.length_zipWith]
      exact Nat.le_trans (Nat.min_le_left _ _) (Good.lst g3 f3')
    by_cases hh : ∃ xs ys, v = Val.d (.tuple xs) ∧ w = Val.d (.tuple ys)
    · obtain ⟨xs, ys, rfl, rfl⟩ := hh
      cases r1' with
      | d ra =>
        cases r2 with
        | d rb =>
          obtain ⟨a', rfl⟩ : ∃ a', u = .ref a' := by cases ra <;> exact ⟨_, rfl⟩
          obtain ⟨b', rfl⟩ : ∃ b', u2 = .ref b' := by cases rb <;> exact ⟨_, rfl⟩
          obtain ⟨us, fa⟩ := FixT.of ra
          obtain ⟨ws, fb⟩ := FixT.of rb
          have q5 := (Ok.ret (a := (xs, ys)) (Ok.bnd (m := (pure (xs, ys) : M (List D × List D))) ok2) S2 g2).ret S2 g2
          refine ⟨a', b', us, ws, rfl, .inr ⟨fa.sq.1, fb.sq.1, fun g3 => q5 _ (Wk.zipT fa fb) ?_⟩⟩
          show (zipD xs ys).length ≤ _
          unfold zipD
          rw [List.length_zipWith]
          exact Nat.le_trans (Nat.min_le_left _ _) (Good.tup g3 fa)
    · refine lists ?_
      unfold seqsOf
      split
      · rename_i xs ys
        exact absurd ⟨xs, ys, rfl, rfl⟩ hh
      · rfl
end
end RL

set_option Elab.async false
set_option linter.all false
set_option maxRecDepth 100000
set_option maxHeartbeats 2000000
namespace RL
open PySem PySem.Spec PyProof.Rows L2
theorem bnd_ok {α β : Type} {m : M α} {f : α → M β} {st s2 : Sto} {b : β} (h : (m >>= f) st = .ok b s2) : ∃ a s1, m st = .ok a s1 ∧ f a s1 = .ok b s2 := by
  have h : M.bnd m f st = .ok b s2 := h
  unfold M.bnd at h
  cases q : m st with
  | ok a s1 => rw [q] at h; exact ⟨a, s1, rfl, h⟩
  | ex c x s => rw [q] at h; cases h
  | no => rw [q] at h; cases h
theorem ret_ok {α : Type} {a b : α} {st s2 : Sto} (h : (pure a : M α) st = .ok b s2) : a = b ∧ st = s2 := by
  have h : R.ok a st = .ok b s2 := h
  cases h; exact ⟨rfl, rfl⟩
section
variable {K : PySem.W.Frag} {W : WD} {Z Z' : Addr → Prop} {φ φ' : List Addr} {st st' : Sto} {H H' : Hp} {α : Type}
theorem Ok.of {r : R α} {a : α} {s : Sto} {P : α → List Addr → Sto → Hp → Prop} (h : r = .ok a s) (k : ∀ φ' H', Ext Z φ st H φ' s H' → RelSt K Z φ' s H' → Good K H' → P a φ' s H') : Ok K W Z φ st H r P := by
  rw [h]; exact k
/-- a reserve let go: all else as it was -/
theorem Ext.unres {D : Addr} (e : Ext (fun a => Z a ∨ a = D) φ st H φ' st' H') (S' : RelSt K (fun a => Z a ∨ a = D) φ' st' H') (hZ : ¬ Z D) : Ext Z φ st H φ' st' H' where
  pre := e.pre
  new := e.new
  keep := fun a o h n => by
    by_cases q : a = D
    · subst q
      refine ⟨(e.zk a (.inr rfl)).trans h, ?_⟩
      rintro (⟨m, xs, h1, h2⟩ | z)
      · exact (S'.res a (.inr rfl)).1 (List.mem_of_getElem? h1)
      · exact hZ z
    · have n' : ¬ LvZ (fun a => Z a ∨ a = D) φ st a := by
        rintro (x | x | x)
        · exact n (.inl x)
        · exact n (.inr x)
        · exact q x
      obtain ⟨h1, h2⟩ := e.keep a o h n'
      exact ⟨h1, fun x => h2 (x.imp id .inl)⟩
  zk := fun a z => e.zk a (.inl z)
  isS := e.isS
theorem Ext.updD {D : Addr} {o : HO} (e : Ext Z φ st H φ' st' H') (hD : H D = none) (hZ : ¬ Z D) : Ext Z φ st H φ' st' (upd H' D o) where
  pre := e.pre
  new := e.new
  keep := fun a o' h n => by
    have ne : a ≠ D := ne_of_none h hD
    obtain ⟨h1, h2⟩ := e.keep a o' h n
    exact ⟨by rw [upd_ne ne]; exact h1, h2⟩
  zk := fun a z => by rw [upd_ne (fun q => hZ (by rw [← q]; exact z))]; exact e.zk a z
  isS := fun a h => by
    by_cases q : a = D
    · rw [q, upd_same]; simp
    · rw [upd_ne q]; exact e.isS a h
theorem RelSt.updD {D : Addr} {o : HO} (S : RelSt K Z φ st H) (hZ : Z D) : RelSt K Z φ st (upd H D o) := by
  have kp : ∀ a u, H a = some u → ¬ LvZ Z φ st a → upd H D o a = some u ∧ ¬ LvZ Z φ st a := fun a u h n => ⟨by rw [upd_ne (fun q => n (.inr (by rw [q]; exact hZ)))]; exact h, n⟩
  refine ⟨S.len, S.nd, fun n a c h1 h2 => ?_, fun a z => ⟨(S.res a z).1, ?_⟩⟩
  · obtain ⟨us, h3, h4⟩ := S.cell n a c h1 h2
    have ne : a ≠ D := fun e => (S.res D hZ).1 (e ▸ List.mem_of_getElem? h1)
    exact ⟨us, by rw [upd_ne ne]; exact h3, h4.mono kp⟩
  · by_cases q : a = D
    · rw [q, upd_same]; simp
    · rw [upd_ne q]; exact (S.res a z).2
theorem RelSt.unres {D : Addr} (S : RelSt K (fun a => Z a ∨ a = D) φ st H) : RelSt K Z φ st H :=
  ⟨S.len, S.nd, fun n a c h1 h2 => let ⟨us, h3, h4⟩ := S.cell n a c h1 h2; ⟨us, h3, h4.mono fun a o h n => ⟨h, fun x => n (x.imp id .inl)⟩⟩, fun a z => S.res a (.inl z)⟩
/-- a new place is kept back -/
theorem RelSt.res' {D : Addr} {o : HO} (S : RelSt K Z φ st H) (hD : H D = none) : RelSt K (fun a => Z a ∨ a = D) φ st (upd H D o) := by
  have S1 := S.laid (o := o) hD
  have kp : ∀ a u, H a = some u → ¬ LvZ Z φ st a → upd H D o a = some u ∧ ¬ LvZ (fun a => Z a ∨ a = D) φ st a := fun a u h n => by
    have ne := ne_of_none h hD
    refine ⟨by rw [upd_ne ne]; exact h, ?_⟩
    rintro (x | x | x)
    · exact n (.inl x)
    · exact n (.inr x)
    · exact ne x
  refine ⟨S.len, S.nd, fun n a c h1 h2 => ?_, fun a z => ?_⟩
  · obtain ⟨us, h3, h4⟩ := S.cell n a c h1 h2
    exact ⟨us, by rw [upd_ne (ne_of_none h3 hD)]; exact h3, h4.mono kp⟩
  · rcases z with z | z
    · exact S1.res a z
    · rw [z]; exact ⟨S.nin hD, by rw [upd_same]; simp⟩
theorem RelSt.nZ {D : Addr} (S : RelSt K Z φ st H) (hD : H D = none) : ¬ Z D := fun z => (S.res D z).2 hD
end
/-! ### targets -/
theorem wipe_set {i : Nat} {o : Option V} : ∀ {vs : List Nat} {σ : L2.St}, i ∈ vs → L2.wipe (σ.set i o) vs = L2.wipe σ vs
  | v :: vs, σ, h => by
    unfold L2.wipe
    by_cases q : i ∈ vs
    · rw [wipe_set q]
    · rcases List.mem_cons.mp h with e | e
      · subst e
        have : ∀ (vs : List Nat), i ∉ vs → ∀ σ : L2.St, L2.wipe (σ.set i o) vs = (L2.wipe σ vs).set i o := by
          intro vs
          induction vs with
          | nil => intro _ σ; rfl
          | cons w ws ih =>
            intro hn σ
            have h1 : i ≠ w := fun e => hn (e ▸ List.mem_cons_self)
            have h2 : i ∉ ws := fun e => hn (List.mem_cons_of_mem _ e)
            unfold L2.wipe
            rw [ih h2, List.set_comm _ _ h1]
        rw [this vs q σ, List.set_set]
      · exact absurd e q
theorem wipe_idem {σ : L2.St} : ∀ vs : List Nat, L2.wipe (L2.wipe σ vs) vs = L2.wipe σ vs
  | [] => rfl
  | v :: vs => by
    show (L2.wipe ((L2.wipe σ vs).set v none) vs).set v none = (L2.wipe σ vs).set v none
    by_cases q : v ∈ vs
    · rw [wipe_set q, wipe_idem vs]
    · have : ∀ (ws : List Nat), v ∉ ws → ∀ σ : L2.St, L2.wipe (σ.set v none) ws = (L2.wipe σ ws).set v none := by
        intro ws
        induction ws with
        | nil => intro _ σ; rfl
        | cons w ws ih =>
          intro hn σ
          have h1 : v ≠ w := fun e => hn (e ▸ List.mem_cons_self)
          have h2 : v ∉ ws := fun e => hn (List.mem_cons_of_mem _ e)
          unfold L2.wipe
          rw [ih h2, List.set_comm _ _ h1]
      rw [this vs q, wipe_idem vs, List.set_set]
mutual
def Tg.sl : Tg → List Nat
  | .n i => [i]
  | .t ts => Tgs.sl ts
  | .ix _ _ => []
def Tgs.sl : Tgs → List Nat
  | .nil => []
  | .cons t ts => Tg.sl t ++ Tgs.sl ts
end
def tG (K : PySem.W.Frag) (W : WD) (sl : List Nat) (m : Val → Env → M Env) : TG := fun u σ H Q => Good K H → ∃ Z φ ρ st v, RelSt K Z φ st H ∧ RelE K Z φ st H ρ σ ∧ RepV K Z φ st H u v ∧
  Ok K W Z φ st H (m v ρ st) fun ρ' φ' st' H' => ∀ σ', RelE K Z φ' st' H' ρ' σ' → (∀ vs : List Nat, (∀ i ∈ sl, i ∈ vs) → L2.wipe σ' vs = L2.wipe σ vs) → Q σ' H'
def tGs (K : PySem.W.Frag) (W : WD) (sl : List Nat) (m : List D → Env → M Env) : TGs := fun us σ H Q => Good K H → ∃ Z φ ρ st xs, RelSt K Z φ st H ∧ RelE K Z φ st H ρ σ ∧ Reps K H (LvZ Z φ st) us xs ∧
  Ok K W Z φ st H (m xs ρ st) fun ρ' φ' st' H' => ∀ σ', RelE K Z φ' st' H' ρ' σ' → (∀ vs : List Nat, (∀ i ∈ sl, i ∈ vs) → L2.wipe σ' vs = L2.wipe σ vs) → Q σ' H'
abbrev DG (X : Cx) (W : WD) (e : Expr) (sl : List Nat) (m : Val → Env → M Env) : Prop := PG X e (tG X.K W sl m)
abbrev DGs (X : Cx) (W : WD) (es : List Expr) (sl : List Nat) (m : List D → Env → M Env) : Prop := PGs X es (tGs X.K W sl m)
section
variable {X : Cx} {W : WD} {a b c : Expr} {ma mb mc : Env → M Val} {pos p2 : Pos}
theorem PG.goes {tg : Expr} {t t' : TG} (h : PG X tg t) (k : ∀ v σ H (Q : L2.St → Hp → Prop), t' v σ H Q → Good X.K H → t v σ H fun σ' H1 => Good X.K H1 → Q σ' H1) : PG X tg t' := by
  refine ⟨fun pins s σ H v u Q I r q => ?_⟩
  exact thn (h.run pins s σ H v u _ I r (k v σ H Q q (Inv.good I))) fun _ s1 ⟨σ', H1, I1, q1⟩ => ⟨σ', H1, I1, q1 (Inv.good I1)⟩
theorem PGs.goes {tg : List Expr} {t t' : TGs} (h : PGs X tg t) (k : ∀ v σ H (Q : L2.St → Hp → Prop), t' v σ H Q → Good X.K H → t v σ H fun σ' H1 => Good X.K H1 → Q σ' H1) : PGs X tg t' := by
  refine ⟨fun pins s σ H v u Q I r q => ?_⟩
  exact thn (h.run pins s σ H v u _ I r (k v σ H Q q (Inv.good I))) fun _ s1 ⟨σ', H1, I1, q1⟩ => ⟨σ', H1, I1, q1 (Inv.good I1)⟩
theorem dg_n {i : Nat} {x : Str} (hN : X.N.Nodup) (hi : X.N[i]? = some x) (hx : Loc X.env.scope x) (hf : X.fn x = true ∨ X.env.scope.names.lookup x = some .local) : DG X W (.Name x pos) [i] (fun v ρ => pure (ρ.set i (some v))) :=
  PG.goes (pg_name hN hi hx hf) fun u σ H Q q g => by
    obtain ⟨Z, φ, ρ, st, v, S, E, r, ok⟩ := q g
    exact fun g' => ok.ret S g _ (E.set r i) fun vs h => wipe_set (h i (by simp))
theorem dgs_nil : DGs X W [] [] (fun xs ρ => match xs with | [] => pure ρ | _ => no) :=
  PGs.goes pgs_nil fun us σ H Q q g => by
    obtain ⟨Z, φ, ρ, st, xs, S, E, r, ok⟩ := q g
    cases r with
    | nil => exact ⟨rfl, fun g' => Ok.ret ok S g _ E fun _ _ => rfl⟩
    | cons _ _ => exact False.elim ok
theorem dgs_cons {e : Expr} {es : List Expr} {sl sls : List Nat} {m : Val → Env → M Env} {ms : List D → Env → M Env} (h1 : DG X W e sl m) (h2 : DGs X W es sls ms) (hs : notStar e = true) :
    DGs X W (e :: es) (sl ++ sls) (fun xs ρ => match xs with | x :: xs => (do let ρ1 ← m (.d x) ρ; ms xs ρ1) | [] => no) :=
  PGs.goes (pgs_cons h1 h2 (by cases e <;> first | rfl | exact absurd hs Bool.false_ne_true)) fun us σ H Q q g => by
    obtain ⟨Z, φ, ρ, st, xs, S, E, r, ok⟩ := q g
    cases r with
    | nil => exact False.elim ok
    | @cons u us x xs h r =>
      refine ⟨u, us, rfl, fun _ => ⟨Z, φ, ρ, st, .d x, S, E, .d h, (Ok.bnd ok).imp fun ρ1 φ1 st1 H1 e1 S1 g1 ok1 => fun σ1 E1 w1 => ?_⟩⟩
      exact fun _ => ⟨Z, φ1, ρ1, st1, xs, S1, E1, r.ext e1, ok1.imp fun ρ2 φ2 st2 H2 e2 S2 g2 q2 => fun σ2 E2 w2 g3 => q2 σ2 E2 fun vs hv => (w2 vs fun i hi => hv i (by simp [hi])).trans (w1 vs fun i hi => hv i (by simp [hi]))⟩
theorem assignEach_len : ∀ {es : List Expr} (h : allNS es = true) (env : PySem.Env), (assignEach es env).length = es.length ∧ (assignEach es env).findIdx? (·.1) = none
  | [], _, _ => ⟨rfl, rfl⟩
  | e :: es, h, env => by
    have h := Bool.and_eq_true_iff.mp (show (notStar e && allNS es) = true from h)
    obtain ⟨h1, h2⟩ := assignEach_len h.2 env
    have e1 : assignEach (e :: es) env = (false, assign e env) :: assignEach es env := by cases e <;> first | rfl | exact absurd h.1 Bool.false_ne_true
    rw [e1]
    refine ⟨by simp [h1], ?_⟩
    rw [List.findIdx?_cons, h2]; rfl
theorem dg_t {es : List Expr} {k : Nat} {sl : List Nat} {ms : List D → Env → M Env} (hc : X.calm = true) (h : DGs X W es sl ms) (hs : allNS es = true) (n : Nat) (hn : n = es.length) :
    DG X W (.Tuple es k pos) sl (fun v ρ => match v with | .d (.tuple xs) => (if xs.length = n then ms xs ρ else no) | _ => no) :=
  PG.goes (pg_tup hc h (assignEach_len hs _).1 (assignEach_len hs _).2) fun u σ H Q q g => by
    obtain ⟨Z, φ, ρ, st, v, S, E, r, ok⟩ := q g
    cases r with
    | d r =>
      cases r with
      | @tup a us xs h1 _ r =>
        have ok : Ok X.K W Z φ st H ((if xs.length = n then ms xs ρ else no) st) _ := ok
        by_cases hl : xs.length = n
        · rw [if_pos hl] at ok
          refine ⟨a, us, rfl, SqT.of h1, ?_, fun _ => ⟨Z, φ, ρ, st, xs, S, E, r, Ok.imp ok fun ρ1 φ1 st1 H1 e1 S1 g1 q1 => fun σ1 E1 w1 g2 => q1 σ1 E1 w1⟩⟩
          rw [r.length, hl, hn]
        · rw [if_neg hl] at ok; exact False.elim ok
      | @tupK a us xs h1 r =>
        have ok : Ok X.K W Z φ st H ((if xs.length = n then ms xs ρ else no) st) _ := ok
        by_cases hl : xs.length = n
        · rw [if_pos hl] at ok
          refine ⟨a, us, rfl, h1.sq, ?_, fun _ => ⟨Z, φ, ρ, st, xs, S, E, r, Ok.imp ok fun ρ1 φ1 st1 H1 e1 S1 g1 q1 => fun σ1 E1 w1 g2 => q1 σ1 E1 w1⟩⟩
          rw [r.length, hl, hn]
        · rw [if_neg hl] at ok; exact False.elim ok
      | _ => exact False.elim ok
    | r _ => exact False.elim ok
    | s _ _ => exact False.elim ok
    | rs _ _ _ => exact False.elim ok
    | g _ _ => exact False.elim ok
theorem dg_ix (hn : ∀ v, assign (.Subscript a b pos) X.env v = (do
      let ov ← holding [v] (eval a X.env)
      let iv ← holding [v, ov] (eval b X.env)
      standAt pos
      holding [v, ov, iv] (setItem ov iv v)
      release [v, ov, iv] [])) (ha : DE X W a ma) (hb : DE X W b mb) : DG X W (.Subscript a b pos) [] (fun v ρ => do let a ← ma ρ; let k ← mb ρ; let x ← moveM v; let k ← lookM k; setIxM a k x; pure ρ) :=
  PG.goes (pg_sub ha hb set_list hn) fun u σ H Q q g => by
    obtain ⟨Z, φ, ρ, st, v, S, E, r, ok⟩ := q g
    refine tE_bnd S E ok fun va φ1 st1 H1 ua e1 S1 E1 g1 r1 ok1 => tE_bnd S1 E1 ok1 fun vk φ2 st2 H2 uk e2 S2 E2 g2 r2 ok2 => ?_
    obtain ⟨x, st3, e3, S3, r3, ok3⟩ := Ok.move S2 g2 (r.ext (e1.trans e2)) (Ok.bnd ok2)
    obtain ⟨k, hk, ok4⟩ := (Ok.bnd ok3).look S3 g2
    have r1' := r1.ext (e2.trans e3)
    cases r1' with
    | @r p n hn =>
      cases look_vw S3 (r2.ext e3) hk with
      | int i =>
        have ok4 : Ok X.K W Z φ2 st3 H2 ((storeM n (fun xs => match ixN xs.length i with | some j => some (xs.set j x) | none => none) >>= fun _ => pure ρ) st3) _ := ok4
        obtain ⟨xs, ws, ys, q1, q2, q3, q4, q5⟩ := store_ok' S3 hn (Ok.bnd ok4)
        have q4 : (match ixN xs.length i with | some j => some (xs.set j x) | none => none) = some ys := q4
        cases hj : ixN xs.length i with
        | none => rw [hj] at q4; cases q4
        | some j =>
          rw [hj] at q4
          cases q4
          refine ⟨p, ws, i, j, rfl, rfl, q2, by rw [q3.length]; exact hj, fun g4 => ?_⟩
          have rr := q3.set r3 j
          have q6 := q5 _ rr g4
          have S5 := S3.store hn q1 rr
          have e5 := Ext.store S3 (ys := xs.set j x) (us := ws.set j u) hn q1
          exact Ok.ret q6 S5 g4 σ ((E2.ext e3).ext e5) fun _ _ => rfl
      | _ => exact False.elim ok4
    | d _ => exact False.elim ok4
    | s _ _ => exact False.elim ok4
    | rs _ _ _ => exact False.elim ok4
    | g _ _ => exact False.elim ok4
/-! ### tests of a comprehension -/
abbrev DTs (X : Cx) (W : WD) (es : List Expr) (m : Env → M Bool) : Prop := PTs X es (tT X.K W m)
theorem PTs.goes {es : List Expr} {t t' : TT} (h : PTs X es t) (k : ∀ σ H (Q : Bool → Hp → Prop), t' σ H Q → Good X.K H → t σ H fun u H1 => Good X.K H1 → Q u H1) : PTs X es t' := by
  refine ⟨fun pins s σ H Q I q => ?_⟩
  exact thn (h.run pins s σ H _ I (k σ H Q q (Inv.good I))) fun u s1 ⟨H1, I1, q1⟩ => ⟨H1, I1, q1 (Inv.good I1)⟩
theorem dts_nil : DTs X W [] (fun _ => pure true) := PTs.goes pts_nil fun σ H Q q g => by
  obtain ⟨Z, φ, ρ, st, S, E, ok⟩ := q g
  exact fun g' => ok.ret S g
theorem dts_one {ta : Env → M Bool} (h : DT X W a ta) : DTs X W [a] (fun ρ => do if ← ta ρ then (pure true : M Bool) else pure false) := PTs.goes (pts_one h) fun σ H Q q g => by
  obtain ⟨Z, φ, ρ, st, S, E, ok⟩ := q g
  refine tT_bnd S E ok fun v φ1 st1 H1 e1 S1 E1 g1 ok1 => ?_
  cases v <;> exact fun g2 => Ok.ret ok1 S1 g1
/-! ### list comprehensions -/
theorem if_tt {α : Type} {b : Bool} {m m' : M α} (h : b = true) : (if b = true then m else m') = m := by rw [if_pos h]
theorem move_ok {K : PySem.W.Frag} {Z : Addr → Prop} {φ : List Addr} {st s2 : Sto} {H : Hp} {u : V} {v : Val} {y : D} (S : RelSt K Z φ st H) (r : RepV K Z φ st H u v) (h : moveM v st = .ok y s2) : Ext Z φ st H φ s2 H ∧ RelSt K Z φ s2 H ∧ Rep K H (LvZ Z φ s2) u y := by
  cases r with
  | d r => obtain ⟨rfl, rfl⟩ := ret_ok h; exact ⟨.refl, S, r⟩
  | @r a n e =>
    have h : (match st[n]? with | some c => R.ok (PyData.list c.xs) (freezeAt st n) | none => .no) = .ok y s2 := h
    cases q : st[n]? with
    | none => rw [q] at h; cases h
    | some c => rw [q] at h; cases h; exact ⟨Ext.freeze, S.freeze, S.frozen e q⟩
  | s _ _ => cases h
  | rs _ _ _ => cases h
  | g _ _ => cases h
def CompIn (K : PySem.W.Frag) (Z : Addr → Prop) (φ1 : List Addr) (st1 : Sto) (H1 : Hp) (D : Addr) (f : RL.D → M (List RL.D)) (xs ys : List RL.D) (stF : Sto) (i : Nat) (H : Hp) : Prop :=
  ∃ φi sti acc us zs, Ext Z φ1 st1 H1 φi sti H ∧ RelSt K (fun a => Z a ∨ a = D) φi sti H ∧ H D = some (.lst us) ∧ Reps K H (LvZ (fun a => Z a ∨ a = D) φi sti) us acc ∧ us.length ≤ i ∧ compL f (xs.drop i) sti = .ok zs stF ∧ acc ++ zs = ys
theorem compL_cons {f : RL.D → M (List RL.D)} {x : RL.D} {xs zs : List RL.D} {st stF : Sto} (h : compL f (x :: xs) st = .ok zs stF) : ∃ r s1 rs, f x st = .ok r s1 ∧ compL f xs s1 = .ok rs stF ∧ zs = r ++ rs := by
  obtain ⟨r, s1, h1, h2⟩ := bnd_ok h
  obtain ⟨rs, s2, h3, h4⟩ := bnd_ok h2
  obtain ⟨rfl, rfl⟩ := ret_ok h4
  exact ⟨r, s1, rs, h1, h3, rfl⟩
theorem noEx_ok {α : Type} {K : PySem.W.Frag} {W : WD} {Z : Addr → Prop} {φ : List Addr} {st : Sto} {H : Hp} {β : Type} {m : M α} {f : α → M β} {P : β → List Addr → Sto → Hp → Prop} (h : Ok K W Z φ st H ((noEx m >>= f) st) P) : ∃ a s1, m st = .ok a s1 ∧ Ok K W Z φ st H (f a s1) P := by
  have h : Ok K W Z φ st H (M.bnd (RL.noEx m) f st) P := h
  unfold M.bnd RL.noEx at h
  cases q : m st with
  | ok a s1 => rw [q] at h; exact ⟨a, s1, rfl, h⟩
  | ex c x s => rw [q] at h; exact False.elim h
  | no => rw [q] at h; exact False.elim h
/-- the new list is told: plain, or a cell -/
theorem comp_end {Z : Addr → Prop} {φ1 φ' : List Addr} {st1 st' : Sto} {H1 H' : Hp} {D : Addr} {us : List V} {ys : List RL.D} {cell : Bool} {Q : VK} (hD : H1 D = none) (hZ : ¬ Z D) (e : Ext Z φ1 st1 H1 φ' st' H') (S : RelSt X.K (fun a => Z a ∨ a = D) φ' st' H')
    (hu : H' D = some (.lst us)) (r : Reps X.K H' (LvZ (fun a => Z a ∨ a = D) φ' st') us ys) (h : Ok X.K W Z φ1 st1 H1 (mkL cell ys st') fun v φ' st' H' => ∀ u, RepV X.K Z φ' st' H' u v → Q u H') (g : Good X.K H') : Q (.ref D) H' := by
  have nD : D ∉ φ' := (S.res D (.inr rfl)).1
  unfold mkL at h
  cases cell with
  | false =>
    refine h φ' H' e S.unres g _ (.d (.lst hu ?_ (r.mono fun a o h n => ⟨h, fun x => n (x.imp id .inl)⟩)))
    rintro (⟨m, xs, h1, h2⟩ | z)
    · exact nD (List.mem_of_getElem? h1)
    · exact hZ z
  | true =>
    have kp : ∀ a o, H' a = some o → ¬ LvZ (fun a => Z a ∨ a = D) φ' st' a → H' a = some o ∧ ¬ LvZ Z (φ' ++ [D]) (st' ++ [⟨true, ys⟩]) a := fun a o h n => by
      refine ⟨h, ?_⟩
      rintro (x | x)
      · rcases (live_app S.len).mp x with x | x
        · exact n (.inl x)
        · exact n (.inr (.inr x))
      · exact n (.inr (.inl x))
    refine h (φ' ++ [D]) H' ⟨?_, ?_, ?_, e.zk, e.isS⟩ ⟨by simp [S.len], ?_, ?_, ?_⟩ g _ (.r (by rw [← S.len]; simp))
    · obtain ⟨t, ht⟩ := e.pre
      exact ⟨t ++ [D], by rw [ht, List.append_assoc]⟩
    · intro a ha hn
      rcases List.mem_append.mp ha with x | x
      · exact e.new a x hn
      · rw [List.mem_singleton.mp x]; exact hD
    · intro a o ha hn
      obtain ⟨h1, h2⟩ := e.keep a o ha hn
      refine ⟨h1, ?_⟩
      rintro (x | x)
      · rcases (live_app S.len).mp x with x | x
        · exact h2 (.inl x)
        · exact ne_of_none ha hD x
      · exact h2 (.inr x)
    · rw [List.nodup_append]
      refine ⟨S.nd, by simp, fun a ha b hb => ?_⟩
      rw [List.mem_singleton.mp hb]
      intro q
      exact nD (q ▸ ha)
    · intro n a c h1 h2
      by_cases q : n < φ'.length
      · rw [List.getElem?_append_left q] at h1
        rw [List.getElem?_append_left (by have := S.len; omega)] at h2
        obtain ⟨ws, h3, h4⟩ := S.cell n a c h1 h2
        exact ⟨ws, h3, h4.mono kp⟩
      · by_cases q2 : n = φ'.length
        · subst q2
          simp at h1
          rw [S.len] at h2
          simp at h2
          subst h1 h2
          exact ⟨us, hu, r.mono kp⟩
        · rw [List.getElem?_eq_none (by simp; omega)] at h1; cases h1
    · intro a z
      refine ⟨fun hm => ?_, (S.res a (.inl z)).2⟩
      rcases List.mem_append.mp hm with x | x
      · exact (S.res a (.inl z)).1 x
      · rw [List.mem_singleton.mp x] at z; exact hZ z
theorem comp_tLc {Z : Addr → Prop} {φ : List Addr} {ρ : RL.Env} {σ : L2.St} {st : Sto} {H : Hp} {Q : VK} {own : List (Str × Nat)} {mi : RL.Env → M (List RL.D)} {sl : List Nat} {g : Val → RL.Env → M RL.Env} {tt : RL.Env → M Bool} {te : RL.Env → M Val} {cell : Bool} (hsl : ∀ i ∈ sl, i ∈ own.map (·.2))
    (S : RelSt X.K Z φ st H) (E : RelE X.K Z φ st H ρ σ) (okk : Ok X.K W Z φ st H ((do
      let xs ← mi ρ
      let ys ← noEx (compL (compF g tt te ρ (own.map (·.2))) xs)
      mkL cell ys : M Val) st) fun v φ' st' H' => ∀ u, RepV X.K Z φ' st' H' u v → Q u H') :
    tLc (tI X.K W mi) (tG X.K (fun _ _ _ _ _ _ => False) sl g) (tT X.K (fun _ _ _ _ _ _ => False) tt) (tE X.K (fun _ _ _ _ _ _ => False) te) (own.map (·.2)) σ H fun u H1 => Good X.K H1 → Q u H1 := by
  intro _
  refine ⟨Z, φ, ρ, st, S, E, okk.bnd.imp fun xs φ1 st1 H1 e1 S1 g1 ok1 => fun J wk hlen D hD => ?_⟩
  obtain ⟨ys, stF, hys, ok2⟩ := noEx_ok ok1
  have hZ := S1.nZ hD
  obtain ⟨G, Y, w, stab, yl⟩ := wk.ex
  have kpi : ∀ φi sti Hi, Ext Z φ1 st1 H1 φi sti Hi → Kp Z φ1 st1 H1 (fun a => Z a ∨ a = D) φi sti Hi := fun φi sti Hi e a o h n => by
    obtain ⟨h1, h2⟩ := e.keep a o h n
    refine ⟨h1, ?_⟩
    rintro (x | x | x)
    · exact h2 (.inl x)
    · exact h2 (.inr x)
    · exact ne_of_none h hD x
  refine lc_it w (CompIn X.K Z φ1 st1 H1 D (compF g tt te ρ (own.map (·.2))) xs ys stF) ?_ ?_ ?_ ?_
  · exact ⟨φ1, st1, [], [], ys, Ext.updD .refl hD hZ, S1.res' hD, upd_same, .nil, Nat.le_refl _, hys, rfl⟩
  · rintro i Hi hi ⟨φi, sti, acc, us, zs, e, Si, hu, r, hl, hc, hy⟩
    exact stab _ φi sti Hi (kpi φi sti Hi e)
  · rintro i u Hi Hi' hi ⟨φi, sti, acc, us, zs, e, Si, hu, r, hl, hcz, hy⟩ y
    obtain ⟨eY, SY, x, hx, rx⟩ := yl i u Hi Hi' _ φi sti hi (kpi φi sti Hi e) Si y
    rw [List.drop_eq_getElem_cons hi] at hcz
    have ex : xs[i] = x := by rw [List.getElem?_eq_getElem hi] at hx; exact Option.some.inj hx
    rw [ex] at hcz
    obtain ⟨rr, s1, rs, h1, h2, rfl⟩ := compL_cons hcz
    obtain ⟨ρ1, sa, ha, hb⟩ := bnd_ok h1
    obtain ⟨b, sb, hb1, hb2⟩ := bnd_ok hb
    have Ei : RelE X.K (fun a => Z a ∨ a = D) φi sti Hi' ρ σ := by
      have := E.ext e1
      refine ⟨this.1, fun i v h => ?_⟩
      obtain ⟨u, h1, h2⟩ := this.2 i v h
      refine ⟨u, h1, ?_⟩
      have kk := kpi φi sti Hi e
      cases h2 with
      | d r => exact (RepV.d (r.mono kk)).ext eY
      | r hr => exact (RepV.r (e.get hr)).ext eY
      | rs hh hn hc => exact (RepV.rs (kk _ _ hh hn).1 (kk _ _ hh hn).2 (hc.ext e)).ext eY
      | s hr n => exact (RepV.s (hr.mono kk) n).ext eY
      | g hh hn => exact (RepV.g (kk _ _ hh hn).1 (kk _ _ hh hn).2).ext eY
    have zD : (fun a => Z a ∨ a = D) D := .inr rfl
    have fin : ∀ {φ4 : List Addr} {H4 : Hp}, Ext (fun a => Z a ∨ a = D) φi sti Hi' φ4 s1 H4 → RelSt X.K (fun a => Z a ∨ a = D) φ4 s1 H4 → H4 D = some (.lst us) ∧ Ext Z φ1 st1 H1 φ4 s1 H4 ∧ Reps X.K H4 (LvZ (fun a => Z a ∨ a = D) φ4 s1) us acc := fun {φ4 H4} e4 S4 =>
      ⟨((eY.trans e4).zk D zD).trans hu, e.trans (Ext.unres (eY.trans e4) S4 hZ), (r.ext eY).ext e4⟩
    refine fun _ => ⟨(fun a => Z a ∨ a = D), φi, wipeE ρ (own.map (·.2)), sti, .d x, SY, Ei.wipe _, .d rx, Ok.of ha fun φ2 H2 e2 S2 g2 σ2 E2 w2 => ⟨?_, ?_⟩⟩
    · rw [w2 _ hsl, wipe_idem]
    · refine fun _ => ⟨(fun a => Z a ∨ a = D), φ2, ρ1, sa, S2, E2, Ok.of hb1 fun φ3 H3 e3 S3 g3 => ?_⟩
      cases b with
      | false =>
        obtain ⟨rfl, rfl⟩ := ret_ok hb2
        have e4 := e2.trans e3
        obtain ⟨q1, q2, q3⟩ := fin e4 S3
        exact ⟨φ3, sb, acc, us, rs, q2, S3, q1, q3, by omega, h2, by simpa using hy⟩
      | true =>
        obtain ⟨v, sc, hv, hm⟩ := bnd_ok hb2
        obtain ⟨yv, sd, hmv, hp⟩ := bnd_ok hm
        obtain ⟨rfl, rfl⟩ := ret_ok hp
        refine fun _ => ⟨(fun a => Z a ∨ a = D), φ3, ρ1, sb, S3, E2.ext e3, Ok.of hv fun φ4 H4 e4 S4 g4 w r4 => ?_⟩
        obtain ⟨e5, S5, r5⟩ := move_ok S4 r4 hmv
        obtain ⟨q1, q2, q3⟩ := fin (((e2.trans e3).trans e4).trans e5) S5
        refine ⟨us, q1, by omega, φ4, sd, acc ++ [yv], us ++ [w], rs, Ext.updD q2 hD hZ, S5.updD zD, upd_same, ?_, by simp; omega, h2, by simpa using hy⟩
        refine (q3.app (.cons r5 .nil)).mono fun a o h n => ⟨by rw [upd_ne (fun q => n (.inr (by rw [q]; exact zD)))]; exact h, n⟩
  · rintro Hn ⟨φi, sti, acc, us, zs, e, Si, hu, r, hl, hcz, hy⟩
    rw [List.drop_length] at hcz
    obtain ⟨rfl, rfl⟩ := ret_ok (a := ([] : List RL.D)) hcz
    rw [List.append_nil] at hy
    subst hy
    exact fun g2 => comp_end hD hZ e Si hu r ok2 g2
theorem it_gen {J : L2.It} {n : Nat} {G : Hp → Prop} {Y : Nat → Hp → V → Hp → Prop} (w : L2.Walk J n G Y) {H0 : Hp} {Qd : Hp → Prop} (Pv : Nat → Hp → Prop) (body : (Hp → Prop) → V → Hp → Prop) (h0 : Pv 0 H0) (hG : ∀ i H, i ≤ n → Pv i H → G H)
    (hs : ∀ i x H H', i < n → Pv i H → Y i H x H' → body (Pv (i + 1)) x H') (hd : ∀ H, Pv n H → Qd H) :
    ∃ W : Nat → Nat → Hp → Prop, (∃ m, W 0 m H0) ∧ ∀ i m H, W i m H →
      (J.stop i H ∧ Qd H) ∨ (J.go i H ∧ ∃ Nx : Hp → Prop, (∀ H', Nx H' → ∃ m', m' < m ∧ W (i + 1) m' H') ∧ ∀ x H', J.yld i H x H' → body Nx x H') := by
  refine ⟨fun i m H => m = n - i ∧ i ≤ n ∧ Pv i H, ⟨n, by simp, Nat.zero_le _, h0⟩, ?_⟩
  rintro i m H ⟨rfl, hi, p⟩
  have q := hG i H hi p
  by_cases hlt : i < n
  · exact .inr ⟨w.goes i H hlt q, Pv (i + 1), fun H' p' => ⟨n - (i + 1), by omega, rfl, hlt, p'⟩, fun x H' y => hs i x H H' hlt p (w.yields i H x H' hlt q y)⟩
  · obtain rfl : i = n := by omega
    exact .inl ⟨w.stops H q, hd H p⟩
def CompI2 (K : PySem.W.Frag) (Z : Addr → Prop) (φ1 : List Addr) (st1 : Sto) (H1 : Hp) (D : Addr) (f : RL.D → M (List RL.D)) (xs ys : List RL.D) (stF : Sto) (i : Nat) (H : Hp) : Prop :=
  ∃ φi sti acc us zs, Ext Z φ1 st1 H1 φi sti H ∧ RelSt K (fun a => Z a ∨ a = D) φi sti H ∧ H D = some (.lst us) ∧ Reps K H (LvZ (fun a => Z a ∨ a = D) φi sti) us acc ∧ compL f (xs.drop i) sti = .ok zs stF ∧ acc ++ zs = ys
/-- within: so far from the inner start -/
def CompI3 (K : PySem.W.Frag) (Z : Addr → Prop) (φ1 : List Addr) (st1 : Sto) (H1 : Hp) (φ3 : List Addr) (st3 : Sto) (H3 : Hp) (D : Addr) (f : RL.D → M (List RL.D)) (xs ys rs : List RL.D) (stF : Sto) (j : Nat) (H : Hp) : Prop :=
  ∃ φi sti acc us zs, Ext Z φ1 st1 H1 φi sti H ∧ RelSt K (fun a => Z a ∨ a = D) φi sti H ∧ H D = some (.lst us) ∧ Reps K H (LvZ (fun a => Z a ∨ a = D) φi sti) us acc ∧ compL f (xs.drop j) sti = .ok zs stF ∧ acc ++ zs ++ rs = ys ∧
    Kp (fun a => Z a ∨ a = D) φ3 st3 H3 (fun a => Z a ∨ a = D) φi sti H ∧ ∃ t, φi = φ3 ++ t
theorem RelE.kp {Z Z' : Addr → Prop} {φ φ' : List Addr} {st st' : Sto} {H H' : Hp} {ρ : RL.Env} {σ : L2.St} {K : PySem.W.Frag} (E : RelE K Z φ st H ρ σ) (k : Kp Z φ st H Z' φ' st' H') (pre : ∃ t, φ' = φ ++ t) : RelE K Z' φ' st' H' ρ σ := by
  refine ⟨E.1, fun i v h => ?_⟩
  obtain ⟨u, h1, h2⟩ := E.2 i v h
  refine ⟨u, h1, ?_⟩
  cases h2 with
  | d r => exact .d (r.mono k)
  | r hr =>
    obtain ⟨t, rfl⟩ := pre
    exact .r (by rw [List.getElem?_append_left (List.getElem?_eq_some_iff.mp hr).1]; exact hr)
  | s hr n => exact .s (hr.mono k) n
  | rs hh hn hc =>
    obtain ⟨t, rfl⟩ := pre
    exact .rs (k _ _ hh hn).1 (k _ _ hh hn).2 hc.pre
  | g hh hn => exact .g (k _ _ hh hn).1 (k _ _ hh hn).2
theorem kp_trans {Z Z' Z'' : Addr → Prop} {φ φ' φ'' : List Addr} {st st' st'' : Sto} {H H' H'' : Hp} (a : Kp Z φ st H Z' φ' st' H') (b : Kp Z' φ' st' H' Z'' φ'' st'' H'') : Kp Z φ st H Z'' φ'' st'' H'' := fun x o h n => b x o (a x o h n).1 (a x o h n).2
theorem comp2_tLc {Z : Addr → Prop} {φ : List Addr} {ρ : RL.Env} {σ : L2.St} {st : Sto} {H : Hp} {Q : VK} {own own2 : List Nat} {mi mi2 : RL.Env → M (List RL.D)} {sl sl2 : List Nat} {g g2 : Val → RL.Env → M RL.Env} {tt tt2 : RL.Env → M Bool} {te : RL.Env → M Val} {cell : Bool} (hsl : ∀ i ∈ sl, i ∈ own) (hsl2 : ∀ i ∈ sl2, i ∈ own2)
    (S : RelSt X.K Z φ st H) (E : RelE X.K Z φ st H ρ σ) (okk : Ok X.K W Z φ st H ((do
      let xs ← mi ρ
      let ys ← noEx (compL (comp2F g tt mi2 (fun ρ1 => compF g2 tt2 te ρ1 own2) ρ own) xs)
      lstK cell ys : M Val) st) fun v φ' st' H' => ∀ u, RepV X.K Z φ' st' H' u v → Q u H') :
    tLc2 (tI X.K W mi) (tG X.K (fun _ _ _ _ _ _ => False) sl g) (tT X.K (fun _ _ _ _ _ _ => False) tt) (tI X.K (fun _ _ _ _ _ _ => False) mi2) (tG X.K (fun _ _ _ _ _ _ => False) sl2 g2) (tT X.K (fun _ _ _ _ _ _ => False) tt2) (tE X.K (fun _ _ _ _ _ _ => False) te) own own2 σ H fun u H1 => Good X.K H1 → Q u H1 := by
  intro _
  refine ⟨Z, φ, ρ, st, S, E, okk.bnd.imp fun xs φ1 st1 H1 e1 S1 g1 ok1 => fun J wk hlen D hD => ?_⟩
  obtain ⟨ys, stF, hys, ok2⟩ := noEx_ok ok1
  have hZ := S1.nZ hD
  have hyl : ys.length ≤ sizeLine := by
    unfold lstK at ok2
    by_cases q : ys.length ≤ sizeLine
    · exact q
    · rw [if_neg q] at ok2; exact False.elim ok2
  have ok2 : Ok X.K W Z φ1 st1 H1 (mkL cell ys stF) fun v φ' st' H' => ∀ u, RepV X.K Z φ' st' H' u v → Q u H' := by
    unfold lstK at ok2
    rw [if_pos hyl] at ok2
    exact ok2
  obtain ⟨G, Y, w, stab, yl⟩ := wk.ex
  have kpi : ∀ φi sti Hi, Ext Z φ1 st1 H1 φi sti Hi → Kp Z φ1 st1 H1 (fun a => Z a ∨ a = D) φi sti Hi := fun φi sti Hi e a o h n => by
    obtain ⟨h1, h2⟩ := e.keep a o h n
    refine ⟨h1, ?_⟩
    rintro (x | x | x)
    · exact h2 (.inl x)
    · exact h2 (.inr x)
    · exact ne_of_none h hD x
  have zD : (fun a => Z a ∨ a = D) D := .inr rfl
  refine it_gen w (CompI2 X.K Z φ1 st1 H1 D (comp2F g tt mi2 (fun ρ1 => compF g2 tt2 te ρ1 own2) ρ own) xs ys stF) _ ?_ ?_ ?_ ?_
  · exact ⟨φ1, st1, [], [], ys, Ext.updD .refl hD hZ, S1.res' hD, upd_same, .nil, hys, rfl⟩
  · rintro i Hi hi ⟨φi, sti, acc, us, zs, e, Si, hu, r, hc, hy⟩
    exact stab _ φi sti Hi (kpi φi sti Hi e)
  · rintro i u Hi Hi' hi ⟨φi, sti, acc, us, zs, e, Si, hu, r, hcz, hy⟩ y
    obtain ⟨eY, SY, x, hx, rx⟩ := yl i u Hi Hi' _ φi sti hi (kpi φi sti Hi e) Si y
    rw [List.drop_eq_getElem_cons hi] at hcz
    have ex : xs[i] = x := by rw [List.getElem?_eq_getElem hi] at hx; exact Option.some.inj hx
    rw [ex] at hcz
    obtain ⟨rr, s1, rs, h1, h2, rfl⟩ := compL_cons hcz
    obtain ⟨ρ1, sa, ha, hb⟩ := bnd_ok h1
    obtain ⟨b, sb, hb1, hb2⟩ := bnd_ok hb
    have Ei : RelE X.K (fun a => Z a ∨ a = D) φi sti Hi' ρ σ := ((E.ext e1).kp (kpi φi sti Hi e) e.pre).ext eY
    refine fun _ => ⟨(fun a => Z a ∨ a = D), φi, wipeE ρ own, sti, .d x, SY, Ei.wipe _, .d rx, Ok.of ha fun φ2 H2 e2 S2 gd2 σ2 E2 w2 => ⟨?_, ?_⟩⟩
    · rw [w2 _ hsl, wipe_idem]
    · refine fun _ => ⟨(fun a => Z a ∨ a = D), φ2, ρ1, sa, S2, E2, Ok.of hb1 fun φ3 H3 e3 S3 g3 => ?_⟩
      have fin : ∀ {φ4 : List Addr} {H4 : Hp} {s4 : Sto}, Ext (fun a => Z a ∨ a = D) φi sti Hi' φ4 s4 H4 → RelSt X.K (fun a => Z a ∨ a = D) φ4 s4 H4 → H4 D = some (.lst us) ∧ Ext Z φ1 st1 H1 φ4 s4 H4 ∧ Reps X.K H4 (LvZ (fun a => Z a ∨ a = D) φ4 s4) us acc := fun {φ4 H4 s4} e4 S4 =>
        ⟨((eY.trans e4).zk D zD).trans hu, e.trans (Ext.unres (eY.trans e4) S4 hZ), (r.ext eY).ext e4⟩
      cases b with
      | false =>
        obtain ⟨rfl, rfl⟩ := ret_ok hb2
        obtain ⟨q1, q2, q3⟩ := fin (e2.trans e3) S3
        exact ⟨φ3, sb, acc, us, rs, q2, S3, q1, q3, h2, by simpa using hy⟩
      | true =>
        obtain ⟨xs2, sc, hi2, hc2⟩ := bnd_ok hb2
        have E3 := E2.ext e3
        refine fun _ => ⟨(fun a => Z a ∨ a = D), φ3, ρ1, sb, S3, E3, Ok.of hi2 fun φ4 H4 e4 S4 g4 J1 wk1 hlen1 => ?_⟩
        obtain ⟨G1, Y1, w1, stab1, yl1⟩ := wk1.ex
        obtain ⟨p1, p2, p3⟩ := fin ((e2.trans e3).trans e4) S4
        have E4 := E3.ext e4
        refine it_gen w1 (CompI3 X.K Z φ1 st1 H1 φ4 sc H4 D (compF g2 tt2 te ρ1 own2) xs2 ys rs s1) _ ?_ ?_ ?_ ?_
        · exact ⟨φ4, sc, acc, us, rr, p2, S4, p1, p3, hc2, by simpa using hy, fun _ _ h n => ⟨h, n⟩, [], by simp⟩
        · rintro j Hj hj ⟨φj, stj, acc, us, zs, e, Sj, hu, r, hc, hy, kp, pre⟩
          exact stab1 _ φj stj Hj kp
        · rintro j u Hj Hj' hj ⟨φj, stj, acc, us, zs, ej, Sj, hu, r, hcz, hy, kp, pre⟩ y
          obtain ⟨eY, SY, x2, hx2, rx2⟩ := yl1 j u Hj Hj' _ φj stj hj kp Sj y
          rw [List.drop_eq_getElem_cons hj] at hcz
          have ex : xs2[j] = x2 := by rw [List.getElem?_eq_getElem hj] at hx2; exact Option.some.inj hx2
          rw [ex] at hcz
          obtain ⟨r2, t1, rs2, k1, k2, rfl⟩ := compL_cons hcz
          obtain ⟨ρ2, ta, ha, hb⟩ := bnd_ok k1
          obtain ⟨b, tb, hb1, hb2⟩ := bnd_ok hb
          have Ej : RelE X.K (fun a => Z a ∨ a = D) φj stj Hj' ρ1 σ2 := (E4.kp kp pre).ext eY
          have fin : ∀ {φ5 : List Addr} {H5 : Hp} {s5 : Sto}, Ext (fun a => Z a ∨ a = D) φj stj Hj' φ5 s5 H5 → RelSt X.K (fun a => Z a ∨ a = D) φ5 s5 H5 → H5 D = some (.lst us) ∧ Ext Z φ1 st1 H1 φ5 s5 H5 ∧ Reps X.K H5 (LvZ (fun a => Z a ∨ a = D) φ5 s5) us acc ∧ Kp (fun a => Z a ∨ a = D) φ4 sc H4 (fun a => Z a ∨ a = D) φ5 s5 H5 ∧ ∃ t, φ5 = φ4 ++ t := fun {φ5 H5 s5} e5 S5 => by
            refine ⟨((eY.trans e5).zk D zD).trans hu, ej.trans (Ext.unres (eY.trans e5) S5 hZ), (r.ext eY).ext e5, kp_trans kp (eY.trans e5).keep, ?_⟩
            obtain ⟨t, rfl⟩ := pre
            obtain ⟨t', e'⟩ := (eY.trans e5).pre
            exact ⟨t ++ t', by rw [e', List.append_assoc]⟩
          refine fun _ => ⟨(fun a => Z a ∨ a = D), φj, wipeE ρ1 own2, stj, .d x2, SY, Ej.wipe _, .d rx2, Ok.of ha fun φ5 H5 e5 S5 g5 σ3 E5 w5 => ⟨?_, ?_⟩⟩
          · rw [w5 _ hsl2, wipe_idem]
          · refine fun _ => ⟨(fun a => Z a ∨ a = D), φ5, ρ2, ta, S5, E5, Ok.of hb1 fun φ6 H6 e6 S6 g6 => ?_⟩
            cases b with
            | false =>
              obtain ⟨rfl, rfl⟩ := ret_ok hb2
              obtain ⟨q1, q2, q3, q4, q5⟩ := fin (e5.trans e6) S6
              exact ⟨φ6, tb, acc, us, rs2, q2, S6, q1, q3, k2, by simpa using hy, q4, q5⟩
            | true =>
              obtain ⟨v, tc, hv, hm⟩ := bnd_ok hb2
              obtain ⟨yv, td, hmv, hp⟩ := bnd_ok hm
              obtain ⟨rfl, rfl⟩ := ret_ok hp
              refine fun _ => ⟨(fun a => Z a ∨ a = D), φ6, ρ2, tb, S6, E5.ext e6, Ok.of hv fun φ7 H7 e7 S7 g7 w r7 => ?_⟩
              obtain ⟨e8, S8, r8⟩ := move_ok S7 r7 hmv
              obtain ⟨q1, q2, q3, q4, q5⟩ := fin (((e5.trans e6).trans e7).trans e8) S8
              have hal : us.length < sizeLine := by
                have l1 := r.length
                have l2 := congrArg List.length hy
                simp at l2
                omega
              refine ⟨us, q1, hal, φ7, td, acc ++ [yv], us ++ [w], rs2, Ext.updD q2 hD hZ, S8.updD zD, upd_same, ?_, k2, by simpa using hy, ?_, q5⟩
              · refine (q3.app (.cons r8 .nil)).mono fun a o h n => ⟨by rw [upd_ne (fun q => n (.inr (by rw [q]; exact zD)))]; exact h, n⟩
              · intro a o h n
                obtain ⟨z1, z2⟩ := q4 a o h n
                exact ⟨by rw [upd_ne (fun q => z2 (.inr (by rw [q]; exact zD)))]; exact z1, z2⟩
        · rintro Hn ⟨φj, stj, acc, us, zs, ej, Sj, hu, r, hcz, hy, kp, pre⟩
          rw [List.drop_length] at hcz
          obtain ⟨rfl, rfl⟩ := ret_ok (a := ([] : List RL.D)) hcz
          exact ⟨φj, _, acc, us, rs, ej, Sj, hu, r, h2, by simpa using hy⟩
  · rintro Hn ⟨φi, sti, acc, us, zs, e, Si, hu, r, hcz, hy⟩
    rw [List.drop_length] at hcz
    obtain ⟨rfl, rfl⟩ := ret_ok (a := ([] : List RL.D)) hcz
    rw [List.append_nil] at hy
    subst hy
    exact fun g2 => comp_end hD hZ e Si hu r ok2 g2
theorem de_comp2 {elt tg iter tg1 iter1 : Expr} {ifs ifs1 : List Expr} {scope : Scope} {own : List (Str × Nat)} {own2 : List Nat} {mi mi2 : Env → M (List D)} {sl sl2 : List Nat} {g g2 : Val → Env → M Env} {tt tt2 : Env → M Bool} {te : Env → M Val} (cell : Bool) (hc : X.calm = true) (hN : X.N.Nodup) (hi : DI X W tg iter mi)
    (ok : BlkOk X.N X.env.scope scope own) (hv : ∀ i ∈ own2, i ∈ own.map (·.2)) (hsl : ∀ i ∈ sl, i ∈ own.map (·.2)) (hsl2 : ∀ i ∈ sl2, i ∈ own2)
    (hg : ∀ (s : Shared) (H : Hp) (C : Addr) (cl : List (Str × Addr)) (fp : List Addr), DG (X.blk s H scope (compEnvC scope cl C X.env) fp) (fun _ _ _ _ _ _ => False) tg sl g)
    (ht : ∀ (s : Shared) (H : Hp) (C : Addr) (cl : List (Str × Addr)) (fp : List Addr), DTs (X.blk s H scope (compEnvC scope cl C X.env) fp) (fun _ _ _ _ _ _ => False) ifs tt)
    (hi1 : ∀ (s : Shared) (H : Hp) (C : Addr) (cl : List (Str × Addr)) (fp : List Addr), DI (X.blk s H scope (compEnvC scope cl C X.env) fp) (fun _ _ _ _ _ _ => False) tg1 iter1 mi2)
    (hg1 : ∀ (s : Shared) (H : Hp) (C : Addr) (cl : List (Str × Addr)) (fp : List Addr), DG (X.blk s H scope (compEnvC scope cl C X.env) fp) (fun _ _ _ _ _ _ => False) tg1 sl2 g2)
    (ht1 : ∀ (s : Shared) (H : Hp) (C : Addr) (cl : List (Str × Addr)) (fp : List Addr), DTs (X.blk s H scope (compEnvC scope cl C X.env) fp) (fun _ _ _ _ _ _ => False) ifs1 tt2)
    (he : ∀ (s : Shared) (H : Hp) (C : Addr) (cl : List (Str × Addr)) (fp : List Addr), DE (X.blk s H scope (compEnvC scope cl C X.env) fp) (fun _ _ _ _ _ _ => False) elt te) (hs : ∀ x, foldedSetIterable iter X.env x = pure x) (hs1 : ∀ env x, foldedSetIterable iter1 env x = pure x) :
    DE X W (.ListComp elt [⟨tg, iter, ifs, 0⟩, ⟨tg1, iter1, ifs1, 0⟩] scope pos) (fun ρ => do
      let xs ← mi ρ
      let ys ← noEx (compL (comp2F g tt mi2 (fun ρ1 => compF g2 tt2 te ρ1 own2) ρ (own.map (·.2))) xs)
      lstK cell ys) := by
  exact PE.at (pe_lc2 (te := tE X.K (fun _ _ _ _ _ _ => False) te) (g := tG X.K (fun _ _ _ _ _ _ => False) sl g) (tt := tT X.K (fun _ _ _ _ _ _ => False) tt) (wi1 := tI X.K (fun _ _ _ _ _ _ => False) mi2) (g1 := tG X.K (fun _ _ _ _ _ _ => False) sl2 g2) (tt1 := tT X.K (fun _ _ _ _ _ _ => False) tt2) hc hN hi ok hv hg ht hi1 hg1 ht1 he hs hs1) fun σ H Q Z φ ρ st S E gd okk => comp2_tLc hsl hsl2 S E okk
theorem de_comp {elt tg iter : Expr} {ifs : List Expr} {scope : Scope} {own : List (Str × Nat)} {mi : Env → M (List RL.D)} {sl : List Nat} {g : Val → Env → M Env} {tt : Env → M Bool} {te : Env → M Val} (cell : Bool) (hc : X.calm = true) (hN : X.N.Nodup) (hi : DI X W tg iter mi)
    (ok : BlkOk X.N X.env.scope scope own) (hsl : ∀ i ∈ sl, i ∈ own.map (·.2))
    (hg : ∀ (s : Shared) (H : Hp) (C : Addr) (cl : List (Str × Addr)) (fp : List Addr), DG (X.blk s H scope (compEnvC scope cl C X.env) fp) (fun _ _ _ _ _ _ => False) tg sl g)
    (ht : ∀ (s : Shared) (H : Hp) (C : Addr) (cl : List (Str × Addr)) (fp : List Addr), DTs (X.blk s H scope (compEnvC scope cl C X.env) fp) (fun _ _ _ _ _ _ => False) ifs tt)
    (he : ∀ (s : Shared) (H : Hp) (C : Addr) (cl : List (Str × Addr)) (fp : List Addr), DE (X.blk s H scope (compEnvC scope cl C X.env) fp) (fun _ _ _ _ _ _ => False) elt te) (hs : ∀ x, foldedSetIterable iter X.env x = pure x) :
    DE X W (.ListComp elt [⟨tg, iter, ifs, 0⟩] scope pos) (fun ρ => do
      let xs ← mi ρ
      let ys ← noEx (compL (compF g tt te ρ (own.map (·.2))) xs)
      mkL cell ys) := by
  exact PE.at (pe_lc (te := tE X.K (fun _ _ _ _ _ _ => False) te) (g := tG X.K (fun _ _ _ _ _ _ => False) sl g) (tt := tT X.K (fun _ _ _ _ _ _ => False) tt) hc hN hi ok hg ht he hs) fun σ H Q Z φ ρ st S E gd okk => comp_tLc hsl S E okk
/-! ### lists of cells -/
theorem CellsR.snoc {φ : List Addr} {b : Addr} {n : Nat} (h : φ[n]? = some b) : ∀ {us : List V} {ns : List Nat}, CellsR φ us ns → CellsR φ (us ++ [.ref b]) (ns ++ [n])
  | _, _, .nil => .cons h .nil
  | _, _, .cons h1 r => .cons h1 (CellsR.snoc h r)
theorem CellsR.length {φ : List Addr} : ∀ {us : List V} {ns : List Nat}, CellsR φ us ns → us.length = ns.length
  | _, _, .nil => rfl
  | _, _, .cons _ r => congrArg (· + 1) (CellsR.length r)
theorem CellsR.get {φ : List Addr} : ∀ {us : List V} {ns : List Nat} {i : Nat} {u : V}, CellsR φ us ns → us[i]? = some u → ∃ n b, ns[i]? = some n ∧ u = .ref b ∧ φ[n]? = some b
  | _, _, _, _, .nil, e => by simp at e
  | _, _, 0, u, .cons h r, e => by simp at e; exact ⟨_, _, rfl, e.symm, h⟩
  | _, _, i + 1, u, .cons h r, e => by
    obtain ⟨n, b, h1, h2, h3⟩ := CellsR.get (i := i) r (by simpa using e)
    exact ⟨n, b, by simpa using h1, h2, h3⟩
theorem cellsL_cons {f : RL.D → M Nat} {x : RL.D} {xs : List RL.D} {zs : List Nat} {st stF : Sto} (h : cellsL f (x :: xs) st = .ok zs stF) : ∃ r s1 rs, f x st = .ok r s1 ∧ cellsL f xs s1 = .ok rs stF ∧ zs = r :: rs := by
  obtain ⟨r, s1, h1, h2⟩ := bnd_ok h
  obtain ⟨rs, s2, h3, h4⟩ := bnd_ok h2
  obtain ⟨rfl, rfl⟩ := ret_ok h4
  exact ⟨r, s1, rs, h1, h3, rfl⟩
theorem compLN_cons {f : Nat → M (List RL.D)} {x : Nat} {xs : List Nat} {zs : List RL.D} {st stF : Sto} (h : compL f (x :: xs) st = .ok zs stF) : ∃ r s1 rs, f x st = .ok r s1 ∧ compL f xs s1 = .ok rs stF ∧ zs = r ++ rs := by
  obtain ⟨r, s1, h1, h2⟩ := bnd_ok h
  obtain ⟨rs, s2, h3, h4⟩ := bnd_ok h2
  obtain ⟨rfl, rfl⟩ := ret_ok h4
  exact ⟨r, s1, rs, h1, h3, rfl⟩
def CellIn (K : PySem.W.Frag) (Z : Addr → Prop) (φ1 : List Addr) (st1 : Sto) (H1 : Hp) (D : Addr) (f : RL.D → M Nat) (xs : List RL.D) (ys : List Nat) (stF : Sto) (i : Nat) (H : Hp) : Prop :=
  ∃ φi sti us ns zs, Ext Z φ1 st1 H1 φi sti H ∧ RelSt K (fun a => Z a ∨ a = D) φi sti H ∧ H D = some (.lst us) ∧ CellsR φi us ns ∧ us.length ≤ i ∧ cellsL f (xs.drop i) sti = .ok zs stF ∧ ns ++ zs = ys
theorem cell_tLc {Z : Addr → Prop} {φ : List Addr} {ρ : RL.Env} {σ : L2.St} {st : Sto} {H : Hp} {Q : VK} {own : List (Str × Nat)} {mi : RL.Env → M (List RL.D)} {sl : List Nat} {g : Val → RL.Env → M RL.Env} {te : RL.Env → M Val} (hsl : ∀ i ∈ sl, i ∈ own.map (·.2))
    (S : RelSt X.K Z φ st H) (E : RelE X.K Z φ st H ρ σ) (okk : Ok X.K W Z φ st H ((do
      let xs ← mi ρ
      let ns ← noEx (cellsL (cellF g te ρ (own.map (·.2))) xs)
      pure (.rs ns) : M Val) st) fun v φ' st' H' => ∀ u, RepV X.K Z φ' st' H' u v → Q u H') :
    tLc (tI X.K W mi) (tG X.K (fun _ _ _ _ _ _ => False) sl g) (tT X.K (fun _ _ _ _ _ _ => False) fun _ => pure true) (tE X.K (fun _ _ _ _ _ _ => False) te) (own.map (·.2)) σ H fun u H1 => Good X.K H1 → Q u H1 := by
  intro _
  refine ⟨Z, φ, ρ, st, S, E, okk.bnd.imp fun xs φ1 st1 H1 e1 S1 g1 ok1 => fun J wk hlen D hD => ?_⟩
  obtain ⟨ys, stF, hys, ok2⟩ := noEx_ok ok1
  have hZ := S1.nZ hD
  obtain ⟨G, Y, w, stab, yl⟩ := wk.ex
  have kpi : ∀ φi sti Hi, Ext Z φ1 st1 H1 φi sti Hi → Kp Z φ1 st1 H1 (fun a => Z a ∨ a = D) φi sti Hi := fun φi sti Hi e a o h n => by
    obtain ⟨h1, h2⟩ := e.keep a o h n
    refine ⟨h1, ?_⟩
    rintro (x | x | x)
    · exact h2 (.inl x)
    · exact h2 (.inr x)
    · exact ne_of_none h hD x
  have zD : (fun a => Z a ∨ a = D) D := .inr rfl
  refine lc_it w (CellIn X.K Z φ1 st1 H1 D (cellF g te ρ (own.map (·.2))) xs ys stF) ?_ ?_ ?_ ?_
  · exact ⟨φ1, st1, [], [], ys, Ext.updD .refl hD hZ, S1.res' hD, upd_same, .nil, Nat.le_refl _, hys, rfl⟩
  · rintro i Hi hi ⟨φi, sti, us, ns, zs, e, Si, hu, r, hl, hc, hy⟩
    exact stab _ φi sti Hi (kpi φi sti Hi e)
  · rintro i u Hi Hi' hi ⟨φi, sti, us, ns, zs, e, Si, hu, r, hl, hcz, hy⟩ y
    obtain ⟨eY, SY, x, hx, rx⟩ := yl i u Hi Hi' _ φi sti hi (kpi φi sti Hi e) Si y
    rw [List.drop_eq_getElem_cons hi] at hcz
    have ex : xs[i] = x := by rw [List.getElem?_eq_getElem hi] at hx; exact Option.some.inj hx
    rw [ex] at hcz
    obtain ⟨rr, s1, rs, h1, h2, rfl⟩ := cellsL_cons hcz
    obtain ⟨ρ1, sa, ha, hb⟩ := bnd_ok h1
    obtain ⟨v, sb, hv, hcv⟩ := bnd_ok hb
    obtain rfl : v = .r rr := by
      cases v with
      | r n => obtain ⟨rfl, rfl⟩ := ret_ok hcv; rfl
      | d _ => cases hcv
      | s _ => cases hcv
      | rs _ => cases hcv
      | g _ _ => cases hcv
    obtain ⟨_, rfl⟩ := ret_ok (a := rr) hcv
    have Ei : RelE X.K (fun a => Z a ∨ a = D) φi sti Hi' ρ σ := ((E.ext e1).kp (kpi φi sti Hi e) e.pre).ext eY
    refine fun _ => ⟨(fun a => Z a ∨ a = D), φi, wipeE ρ (own.map (·.2)), sti, .d x, SY, Ei.wipe _, .d rx, Ok.of ha fun φ2 H2 e2 S2 g2 σ2 E2 w2 => ⟨?_, ?_⟩⟩
    · rw [w2 _ hsl, wipe_idem]
    · refine fun _ => ⟨(fun a => Z a ∨ a = D), φ2, ρ1, sa, S2, E2, fun φ3 H3 e3 S3 g3 => ?_⟩
      refine fun _ => ⟨(fun a => Z a ∨ a = D), φ3, ρ1, sa, S3, E2.ext e3, Ok.of hv fun φ4 H4 e4 S4 g4 w r4 => ?_⟩
      cases r4 with
      | @r b n hb' =>
        have e5 := (e2.trans e3).trans e4
        refine ⟨us, ((eY.trans e5).zk D zD).trans hu, by omega, φ4, sb, us ++ [.ref b], ns ++ [rr], rs, Ext.updD (e.trans (Ext.unres (eY.trans e5) S4 hZ)) hD hZ, S4.updD zD, upd_same, (r.ext (eY.trans e5)).snoc hb', by simp; omega, h2, by simpa using hy⟩
  · rintro Hn ⟨φi, sti, us, ns, zs, e, Si, hu, r, hl, hcz, hy⟩
    rw [List.drop_length] at hcz
    obtain ⟨rfl, rfl⟩ := ret_ok (a := ([] : List Nat)) hcz
    rw [List.append_nil] at hy
    subst hy
    intro g2
    refine ok2 φi Hn e Si.unres g2 _ (.rs hu ?_ r)
    rintro (⟨m, xs, h1, _⟩ | z)
    · exact (Si.res D zD).1 (List.mem_of_getElem? h1)
    · exact hZ z
theorem de_compC {elt tg iter : Expr} {scope : Scope} {own : List (Str × Nat)} {mi : Env → M (List D)} {sl : List Nat} {g : Val → Env → M Env} {te : Env → M Val} (hc : X.calm = true) (hN : X.N.Nodup) (hi : DI X W tg iter mi)
    (ok : BlkOk X.N X.env.scope scope own) (hsl : ∀ i ∈ sl, i ∈ own.map (·.2))
    (hg : ∀ (s : Shared) (H : Hp) (C : Addr) (cl : List (Str × Addr)) (fp : List Addr), DG (X.blk s H scope (compEnvC scope cl C X.env) fp) (fun _ _ _ _ _ _ => False) tg sl g)
    (he : ∀ (s : Shared) (H : Hp) (C : Addr) (cl : List (Str × Addr)) (fp : List Addr), DE (X.blk s H scope (compEnvC scope cl C X.env) fp) (fun _ _ _ _ _ _ => False) elt te) (hs : ∀ x, foldedSetIterable iter X.env x = pure x) :
    DE X W (.ListComp elt [⟨tg, iter, [], 0⟩] scope pos) (fun ρ => do
      let xs ← mi ρ
      let ns ← noEx (cellsL (cellF g te ρ (own.map (·.2))) xs)
      pure (.rs ns)) := by
  exact PE.at (pe_lc (te := tE X.K (fun _ _ _ _ _ _ => False) te) (g := tG X.K (fun _ _ _ _ _ _ => False) sl g) (tt := tT X.K (fun _ _ _ _ _ _ => False) fun _ => pure true) hc hN hi ok hg (fun _ _ _ _ _ => dts_nil) he hs) fun σ H Q Z φ ρ st S E gd okk => cell_tLc hsl S E okk
def tIR (K : PySem.W.Frag) (W : WD) (m : Env → M (List Nat)) : TI := fun σ H R => Good K H → ∃ Z φ ρ st, RelSt K Z φ st H ∧ RelE K Z φ st H ρ σ ∧ Ok K W Z φ st H (m ρ st) fun ns φ' st' H' => ∀ a us, H' a = some (.lst us) → ¬ LvZ Z φ' st' a → CellsR φ' us ns → R (Itl K a) H'
theorem dir_seq {tg : Expr} (ha : DE X W a ma) : PI X tg a (tIR X.K W fun ρ => do let v ← ma ρ; asCells v) := by
  refine PI.goes (pi_any ha) fun σ H R q g => ?_
  obtain ⟨Z, φ, ρ, st, S, E, ok⟩ := q g
  refine tE_bnd S E ok fun v φ1 st1 H1 u e1 S1 E1 g1 r1 ok1 => ?_
  cases r1 with
  | rs hh hn hc => exact .inl ⟨_, rfl, ⟨_, SqL.of hh⟩, fun g2 => Ok.ret ok1 S1 g1 _ _ hh hn hc⟩
  | d _ => exact False.elim ok1
  | r _ => exact False.elim ok1
  | s _ _ => exact False.elim ok1
  | g _ _ => exact False.elim ok1
def CompRI (K : PySem.W.Frag) (Z : Addr → Prop) (φ1 : List Addr) (st1 : Sto) (H1 : Hp) (D : Addr) (f : Nat → M (List RL.D)) (xs : List Nat) (ys : List RL.D) (stF : Sto) (i : Nat) (H : Hp) : Prop :=
  ∃ φi sti acc us zs, Ext Z φ1 st1 H1 φi sti H ∧ RelSt K (fun a => Z a ∨ a = D) φi sti H ∧ H D = some (.lst us) ∧ Reps K H (LvZ (fun a => Z a ∨ a = D) φi sti) us acc ∧ us.length ≤ i ∧ compL f (xs.drop i) sti = .ok zs stF ∧ acc ++ zs = ys
theorem compR_tLc {Z : Addr → Prop} {φ : List Addr} {ρ : RL.Env} {σ : L2.St} {st : Sto} {H : Hp} {Q : VK} {own : List (Str × Nat)} {mi : RL.Env → M (List Nat)} {i0 : Nat} {tt : RL.Env → M Bool} {te : RL.Env → M Val} {cell : Bool} (hsl : i0 ∈ own.map (·.2))
    (S : RelSt X.K Z φ st H) (E : RelE X.K Z φ st H ρ σ) (okk : Ok X.K W Z φ st H ((do
      let ns ← mi ρ
      let ys ← noEx (compL (compRF i0 tt te ρ (own.map (·.2))) ns)
      mkL cell ys : M Val) st) fun v φ' st' H' => ∀ u, RepV X.K Z φ' st' H' u v → Q u H') :
    tLc (tIR X.K W mi) (tG X.K (fun _ _ _ _ _ _ => False) [i0] fun v ρ => pure (ρ.set i0 (some v))) (tT X.K (fun _ _ _ _ _ _ => False) tt) (tE X.K (fun _ _ _ _ _ _ => False) te) (own.map (·.2)) σ H fun u H1 => Good X.K H1 → Q u H1 := by
  intro _
  refine ⟨Z, φ, ρ, st, S, E, okk.bnd.imp fun xs φ1 st1 H1 e1 S1 g1 ok1 => fun a ws ha hna hcr D hD => ?_⟩
  obtain ⟨ys, stF, hys, ok2⟩ := noEx_ok ok1
  have hZ := S1.nZ hD
  have kpi : ∀ φi sti Hi, Ext Z φ1 st1 H1 φi sti Hi → Kp Z φ1 st1 H1 (fun a => Z a ∨ a = D) φi sti Hi := fun φi sti Hi e a o h n => by
    obtain ⟨h1, h2⟩ := e.keep a o h n
    refine ⟨h1, ?_⟩
    rintro (x | x | x)
    · exact h2 (.inl x)
    · exact h2 (.inr x)
    · exact ne_of_none h hD x
  have zD : (fun a => Z a ∨ a = D) D := .inr rfl
  have hlen := hcr.length
  have hw : ws.length ≤ sizeLine := g1 _ _ (.inl (SqL.of ha))
  refine lc_it (G := fun H => SqL X.K H a ws) (walk_list (xs := ws)) (CompRI X.K Z φ1 st1 H1 D (compRF i0 tt te ρ (own.map (·.2))) xs ys stF) ?_ ?_ ?_ ?_
  · exact ⟨φ1, st1, [], [], ys, Ext.updD .refl hD hZ, S1.res' hD, upd_same, .nil, Nat.le_refl _, hys, rfl⟩
  · rintro i Hi hi ⟨φi, sti, acc, us, zs, e, Si, hu, r, hl, hc, hy⟩
    exact SqL.of (kpi φi sti Hi e _ _ ha hna).1
  · rintro i u Hi Hi' hi ⟨φi, sti, acc, us, zs, e, Si, hu, r, hl, hcz, hy⟩ ⟨rfl, hx⟩
    obtain ⟨n, b, hn, rfl, hb0⟩ := hcr.get hx
    rw [List.drop_eq_getElem_cons (by omega)] at hcz
    have ex : xs[i]'(by omega) = n := by rw [List.getElem?_eq_getElem (by omega)] at hn; exact Option.some.inj hn
    rw [ex] at hcz
    obtain ⟨rr, s1, rs, h1, h2, rfl⟩ := compLN_cons hcz
    obtain ⟨bb, sb, hb1, hb2⟩ := bnd_ok h1
    have Ei : RelE X.K (fun a => Z a ∨ a = D) φi sti Hi' ρ σ := (E.ext e1).kp (kpi φi sti Hi' e) e.pre
    have fin : ∀ {φ4 : List Addr} {H4 : Hp}, Ext (fun a => Z a ∨ a = D) φi sti Hi' φ4 s1 H4 → RelSt X.K (fun a => Z a ∨ a = D) φ4 s1 H4 → H4 D = some (.lst us) ∧ Ext Z φ1 st1 H1 φ4 s1 H4 ∧ Reps X.K H4 (LvZ (fun a => Z a ∨ a = D) φ4 s1) us acc := fun {φ4 H4} e4 S4 =>
      ⟨(e4.zk D zD).trans hu, e.trans (Ext.unres e4 S4 hZ), r.ext e4⟩
    refine fun _ => ⟨(fun a => Z a ∨ a = D), φi, wipeE ρ (own.map (·.2)), sti, .r n, Si, Ei.wipe _, .r (e.get hb0), fun φ2 H2 e2 S2 g2 σ2 E2 w2 => ⟨?_, ?_⟩⟩
    · rw [w2 _ (by intro j hj; rw [List.mem_singleton.mp hj]; exact hsl), wipe_idem]
    · refine fun _ => ⟨(fun a => Z a ∨ a = D), φ2, _, sti, S2, E2, Ok.of hb1 fun φ3 H3 e3 S3 g3 => ?_⟩
      cases bb with
      | false =>
        obtain ⟨rfl, rfl⟩ := ret_ok hb2
        obtain ⟨q1, q2, q3⟩ := fin (e2.trans e3) S3
        exact ⟨φ3, sb, acc, us, rs, q2, S3, q1, q3, by omega, h2, by simpa using hy⟩
      | true =>
        obtain ⟨v, sc, hv, hm⟩ := bnd_ok hb2
        obtain ⟨yv, sd, hmv, hp⟩ := bnd_ok hm
        obtain ⟨rfl, rfl⟩ := ret_ok hp
        refine fun _ => ⟨(fun a => Z a ∨ a = D), φ3, _, sb, S3, E2.ext e3, Ok.of hv fun φ4 H4 e4 S4 g4 w r4 => ?_⟩
        obtain ⟨e5, S5, r5⟩ := move_ok S4 r4 hmv
        obtain ⟨q1, q2, q3⟩ := fin (((e2.trans e3).trans e4).trans e5) S5
        refine ⟨us, q1, by omega, φ4, sd, acc ++ [yv], us ++ [w], rs, Ext.updD q2 hD hZ, S5.updD zD, upd_same, ?_, by simp; omega, h2, by simpa using hy⟩
        refine (q3.app (.cons r5 .nil)).mono fun a o h n => ⟨by rw [upd_ne (fun q => n (.inr (by rw [q]; exact zD)))]; exact h, n⟩
  · rintro Hn ⟨φi, sti, acc, us, zs, e, Si, hu, r, hl, hcz, hy⟩
    rw [hlen, List.drop_length] at hcz
    obtain ⟨rfl, rfl⟩ := ret_ok (a := ([] : List RL.D)) hcz
    rw [List.append_nil] at hy
    subst hy
    exact fun g2 => comp_end hD hZ e Si hu r ok2 g2
theorem de_compR {elt iter : Expr} {ifs : List Expr} {scope : Scope} {own : List (Str × Nat)} {tg : Expr} {i0 : Nat} {ms : Env → M Val} {tt : Env → M Bool} {te : Env → M Val} (cell : Bool) (hc : X.calm = true) (hN : X.N.Nodup) (hi : DE X W iter ms)
    (ok : BlkOk X.N X.env.scope scope own) (hsl : i0 ∈ own.map (·.2))
    (hg : ∀ (s : Shared) (H : Hp) (C : Addr) (cl : List (Str × Addr)) (fp : List Addr), DG (X.blk s H scope (compEnvC scope cl C X.env) fp) (fun _ _ _ _ _ _ => False) tg [i0] fun v ρ => pure (ρ.set i0 (some v)))
    (ht : ∀ (s : Shared) (H : Hp) (C : Addr) (cl : List (Str × Addr)) (fp : List Addr), DTs (X.blk s H scope (compEnvC scope cl C X.env) fp) (fun _ _ _ _ _ _ => False) ifs tt)
    (he : ∀ (s : Shared) (H : Hp) (C : Addr) (cl : List (Str × Addr)) (fp : List Addr), DE (X.blk s H scope (compEnvC scope cl C X.env) fp) (fun _ _ _ _ _ _ => False) elt te) (hs : ∀ x, foldedSetIterable iter X.env x = pure x) :
    DE X W (.ListComp elt [⟨tg, iter, ifs, 0⟩] scope pos) (fun ρ => do
      let v ← ms ρ
      let ns ← asCells v
      let ys ← noEx (compL (compRF i0 tt te ρ (own.map (·.2))) ns)
      mkL cell ys) := by
  refine PE.at (pe_lc (te := tE X.K (fun _ _ _ _ _ _ => False) te) (g := tG X.K (fun _ _ _ _ _ _ => False) [i0] fun v ρ => pure (ρ.set i0 (some v))) (tt := tT X.K (fun _ _ _ _ _ _ => False) tt) hc hN (dir_seq hi) ok hg ht he hs) fun σ H Q Z φ ρ st S E gd okk => by
    rw [← bnd_assoc] at okk
    exact compR_tLc (cell := cell) hsl S E okk
end
end RL

set_option Elab.async false
set_option linter.all false
set_option maxRecDepth 100000
set_option maxHeartbeats 4000000
namespace RL
open PySem PySem.Spec PyProof.Rows L2
/-! ### the look: a text's tree and its word in the language -/
def notSet : Expr → Bool
  | .Set _ _ _ => false
  | _ => true
def notSlice : Expr → Bool
  | .Slice _ _ _ _ => false
  | _ => true
def plainName (x : Str) : Bool := !(x == ("__debug__" : Str)) && !(x == ("__classdict__" : Str)) && !decide (x = ("__name__" : Str))
def ownP (Γ : Gam) (own : List Nat) : List (Str × Nat) := own.map fun i => (Γ.N.getD i ("" : Str), i)
def Gam.blk (Γ : Gam) (scope : Scope) : Gam := ⟨Γ.N, relS scope Γ.sc, scope⟩
def cOp (o : COp) (op : CmpOp) : Bool := decide (o.to = op)
def bOp (o : BOp) (op : Operator) : Bool := decide (o.to = op)
def nmB (Γ : Gam) (x y : Str) : Bool := decide (x = y) && glB Γ.sc x
def tysB (Γ : Gam) : List Expr → List Ty → Bool
  | [], [] => true
  | .Name n _ :: es, t :: ts => nmB Γ n (Str.ofString t.name) && tysB Γ es ts
  | _, _ => false
mutual
def ckE (T : Wor) : Ex → Gam → Expr → Bool
  | .non, _, x => (match x with
    | .Constant .none _ _ => true
    | _ => false)
  | .bl b, _, x => (match x with
    | .Constant (.bool c) _ _ => decide (b = c)
    | _ => false)
  | .int i, _, x => (match x with
    | .Constant (.int j) _ _ => decide (i = j)
    | _ => false)
  | .str z, _, x => (match x with
    | .Constant (.str y) _ _ => decide (z = y)
    | _ => false)
  | .v i, Γ, x => (match x with
    | .Name y _ => decide (Γ.N[i]? = some y) && visB Γ.sc y && plainName y
    | _ => false)
  | .g i, Γ, x => (match x with
    | .Name y _ => decide (T.glb[i]? = some y) && glB Γ.sc y && plainName y
    | _ => false)
  | .neg a, Γ, x => (match x with
    | .UnaryOp .USub y _ => ckE T a Γ y
    | _ => false)
  | .bin o a b, Γ, x => (match x with
    | .BinOp y op z _ => bOp o op && (ckE T a Γ y && ckE T b Γ z)
    | _ => false)
  | .cmp o a b, Γ, x => (match x with
    | .Compare y [op] [z] _ => cOp o op && (notSet z && (ckE T a Γ y && ckE T b Γ z))
    | _ => false)
  | .cmp2 o p a b c, Γ, x => (match x with
    | .Compare y [op, op'] [z, t] _ => cOp o op && (cOp p op' && (notSet t && (ckE T a Γ y && (ckE T b Γ z && ckE T c Γ t))))
    | _ => false)
  | .and a b, Γ, x => (match x with
    | .BoolOp .And (y :: z :: rest) pos => ckE T a Γ y && (match rest with
      | [] => ckE T b Γ z
      | _ :: _ => ckE T b Γ (.BoolOp .And (z :: rest) pos))
    | _ => false)
  | .or a b, Γ, x => (match x with
    | .BoolOp .Or (y :: z :: rest) pos => ckE T a Γ y && (match rest with
      | [] => ckE T b Γ z
      | _ :: _ => ckE T b Γ (.BoolOp .Or (z :: rest) pos))
    | _ => false)
  | .not a, Γ, x => (match x with
    | .UnaryOp .Not y _ => ckE T a Γ y
    | _ => false)
  | .ite c a b, Γ, x => (match x with
    | .IfExp t y z _ => ckE T c Γ t && (ckE T a Γ y && ckE T b Γ z)
    | _ => false)
  | .call f as, Γ, x => (match x with
    | .Call (.Name y _) es [] _ => decide (T.fns[f]? = some y) && (glB Γ.sc y && (plainName y && (allNS es && ckEs T as Γ es)))
    | _ => false)
  | .bi b as, Γ, x => (match x with
    | .Call (.Name y _) (e :: es) [] _ => nmB Γ y (Str.ofString b.val.name) && (allNS (e :: es) && ckEs T as Γ (e :: es))
    | _ => false)
  | .rgT a, Γ, x => (match x with
    | .Call (.Name y _) [.Call (.Name r _) [z] [] _] [] _ => nmB Γ y "tuple" && (nmB Γ r "range" && (notStar z && ckE T a Γ z))
    | _ => false)
  | .rgL _ a, Γ, x => (match x with
    | .Call (.Name y _) [.Call (.Name r _) [z] [] _] [] _ => nmB Γ y "list" && (nmB Γ r "range" && (notStar z && ckE T a Γ z))
    | _ => false)
  | .rgV a b, Γ, x => (match x with
    | .Call (.Name y _) [z, t] [] _ => nmB Γ y "range" && (notStar z && (notStar t && (ckE T a Γ z && ckE T b Γ t)))
    | _ => false)
  | .listC a, Γ, x => (match x with
    | .Call (.Name y _) [z] [] _ => nmB Γ y "list" && (notStar z && ckE T a Γ z)
    | _ => false)
  | .isi a t, Γ, x => (match x with
    | .Call (.Name y _) [z, .Name t' _] [] _ => nmB Γ y "isinstance" && (nmB Γ t' (Str.ofString t.name) && (notStar z && ckE T a Γ z))
    | _ => false)
  | .tup as, Γ, x => (match x with
    | .Tuple es _ _ => allNS es && ckEs T as Γ es
    | _ => false)
  | .lst _ as, Γ, x => (match x with
    | .List es _ => allNS es && ckEs T as Γ es
    | _ => false)
  | .ix a i, Γ, x => (match x with
    | .Subscript y z _ => notSlice z && (ckE T a Γ y && ckE T i Γ z)
    | _ => false)
  | .sl a lo hi, Γ, x => (match x with
    | .Subscript y (.Slice l h none _) _ => ckE T a Γ y && ((match l with
      | none => ckEs T lo Γ []
      | some e => ckEs T lo Γ [e]) && (match h with
      | none => ckEs T hi Γ []
      | some e => ckEs T hi Γ [e]))
    | _ => false)
  | .rev a, Γ, x => (match x with
    | .Subscript y (.Slice none none (some (.UnaryOp .USub (.Constant (.int 1) _ _) _)) _) _ => ckE T a Γ y
    | _ => false)
  | .comp _ e t it ifs own, Γ, x => (match x with
    | .ListComp elt [⟨tg, iter, fs, 0⟩] scope _ => blkC Γ.N Γ.sc scope (ownP Γ own) && ((t.sl.all fun i => own.contains i) && (notSet iter && (decide (fs.length ≤ 1) && (ckI T it Γ tg iter && (ckG T t (Γ.blk scope) tg && (ckEs T ifs (Γ.blk scope) fs && ckE T e (Γ.blk scope) elt))))))
    | _ => false)
  | .comp2 _ e t it ifs t2 it2 ifs2 own own2, Γ, x => (match x with
    | .ListComp elt [⟨tg, iter, fs, 0⟩, ⟨tg2, iter2, fs2, 0⟩] scope _ => blkC Γ.N Γ.sc scope (ownP Γ own) && ((t.sl.all fun i => own.contains i) && ((t2.sl.all fun i => own2.contains i) && ((own2.all fun i => own.contains i) && (notSet iter && (notSet iter2 && (decide (fs.length ≤ 1) && (decide (fs2.length ≤ 1) &&
      (ckI T it Γ tg iter && (ckG T t (Γ.blk scope) tg && (ckEs T ifs (Γ.blk scope) fs && (ckI T it2 (Γ.blk scope) tg2 iter2 && (ckG T t2 (Γ.blk scope) tg2 && (ckEs T ifs2 (Γ.blk scope) fs2 && ckE T e (Γ.blk scope) elt)))))))))))))
    | _ => false)
  | .compC e t it own, Γ, x => (match x with
    | .ListComp elt [⟨tg, iter, [], 0⟩] scope _ => blkC Γ.N Γ.sc scope (ownP Γ own) && ((t.sl.all fun i => own.contains i) && (notSet iter && (ckI T it Γ tg iter && (ckG T t (Γ.blk scope) tg && ckE T e (Γ.blk scope) elt))))
    | _ => false)
  | .compR _ e i src ifs own, Γ, x => (match x with
    | .ListComp elt [⟨.Name y _, iter, fs, 0⟩] scope _ => blkC Γ.N Γ.sc scope (ownP Γ own) && (own.contains i && (notSet iter && (decide (fs.length ≤ 1) && (ckE T src Γ iter && ((decide ((Γ.blk scope).N[i]? = some y) && storeB (Γ.blk scope) y) && (ckEs T ifs (Γ.blk scope) fs && ckE T e (Γ.blk scope) elt))))))
    | _ => false)
  | .never, _, _ => true
  | .callK f as kas perm, Γ, x => (match x with
    | .Call (.Name y _) es kws _ => decide (T.fns[f]? = some y) && (glB Γ.sc y && (plainName y && (allNS es && (decide (as.len = es.length) && (kws.all (fun k => k.arg.isSome) && (decide (kas.len = kws.length) && (permOk (T.par.getD f []) es.length (kws.filterMap (·.arg)) perm && (ckEs T as Γ es && ckKs T kas Γ kws))))))))
    | _ => false)
  | .isiT a ts, Γ, x => (match x with
    | .Call (.Name y _) [z, .Tuple es _ _] [] _ => nmB Γ y "isinstance" && (tysB Γ es ts && (decide (ts.length ≤ 6) && (notStar z && ckE T a Γ z)))
    | _ => false)
  | .app a b, Γ, x => (match x with
    | .Call (.Attribute y f apos) [z] [] pos => decide (f = ("append" : Str)) && (plainBase y && ((apos.endLine == pos.line) && (notStar z && (ckE T a Γ y && ckE T b Γ z))))
    | _ => false)
  | .upper a, Γ, x => (match x with
    | .Call (.Attribute y f apos) [] [] pos => decide (f = ("upper" : Str)) && (plainBase y && ((apos.endLine == pos.line) && ckE T a Γ y))
    | _ => false)
def ckEs (T : Wor) : Exs → Gam → List Expr → Bool
  | .nil, _, xs => (match xs with
    | [] => true
    | _ => false)
  | .cons a as, Γ, xs => (match xs with
    | y :: ys => notStar y && (ckE T a Γ y && ckEs T as Γ ys)
    | [] => false)
def ckKs (T : Wor) : Exs → Gam → List Keyword → Bool
  | .nil, _, xs => (match xs with
    | [] => true
    | _ => false)
  | .cons a as, Γ, xs => (match xs with
    | ⟨_, y, _⟩ :: ys => ckE T a Γ y && ckKs T as Γ ys
    | [] => false)
def ckI (T : Wor) : It → Gam → Expr → Expr → Bool
  | .seq e, Γ, _, x => ckE T e Γ x
  | .rng1 a, Γ, _, x => (match x with
    | .Call (.Name y _) [z] [] _ => nmB Γ y "range" && (notStar z && ckE T a Γ z)
    | _ => false)
  | .rng2 a b, Γ, _, x => (match x with
    | .Call (.Name y _) [z, t] [] _ => nmB Γ y "range" && (notStar z && (notStar t && (ckE T a Γ z && ckE T b Γ t)))
    | _ => false)
  | .enum e, Γ, tg, x => (match tg, x with
    | .Tuple _ _ _, .Call (.Name y _) [z] [] _ => nmB Γ y "enumerate" && (notStar z && ckE T e Γ z)
    | _, _ => false)
  | .zip a b, Γ, tg, x => (match tg, x with
    | .Tuple _ _ _, .Call (.Name y _) [z, t] [] _ => nmB Γ y "zip" && (notStar z && (notStar t && (ckE T a Γ z && ckE T b Γ t)))
    | _, _ => false)
def ckG (T : Wor) : Tg → Gam → Expr → Bool
  | .n i, Γ, x => (match x with
    | .Name y _ => decide (Γ.N[i]? = some y) && storeB Γ y
    | _ => false)
  | .t ts, Γ, x => (match x with
    | .Tuple es _ _ => allNS es && ckGs T ts Γ es
    | _ => false)
  | .ix o i, Γ, x => (match x with
    | .Subscript y z _ => notSlice z && (ckE T o Γ y && ckE T i Γ z)
    | _ => false)
def ckGs (T : Wor) : Tgs → Gam → List Expr → Bool
  | .nil, _, xs => (match xs with
    | [] => true
    | _ => false)
  | .cons t ts, Γ, xs => (match xs with
    | y :: ys => notStar y && (ckG T t Γ y && ckGs T ts Γ ys)
    | [] => false)
end
/-! ### what stands around -/
structure Fac (p : Pr) (T : Wor) (n : Nat) (P : Program) (w : World) (K : PySem.W.Frag) (mg : Str → Option Value) (base : Heap) : Prop where
  fn : ∀ (i : Nat) (x : Str), T.fns[i]? = some x → ∃ f fd ps, mg x = some (.ref f) ∧ PySem.W.keepIn K (.ref f) = true ∧ ps = T.par.getD i [] ∧ SimpleFd fd ps ∧ FnOk P w K mg base (CX P w) n f fd ps (spN T p mg K i n)
  gl : ∀ (i : Nat) (x : Str) (d : D), T.glb[i]? = some x → p.glb[i]? = some d → ∃ u v, mg x = some u ∧ RelV v u ∧ ∀ H L, Rep K H L v d
  bl : ∀ x ∈ bltNames, mg x = none
structure Ct (p : Pr) (T : Wor) (n : Nat) (W : WD) (Γ : Gam) (X : Cx) : Prop where
  fac : Fac p T n X.prog X.w X.K X.mg X.base
  calm : X.calm = true
  room : Room n X.A
  nm : X.N = Γ.N
  nd : X.N.Nodup
  sc : X.env.scope = Γ.sc
  stor : ∀ x, storeB Γ x = true → Loc X.env.scope x ∧ (X.fn x = true ∨ X.env.scope.names.lookup x = some .local)
  pas : ∃ E, Passes (CX X.prog X.w) X E ∧ ∀ c x Z φ st H, W c x Z φ st H → WE T X.mg X.K E c x Z φ st H
theorem a2 {a b : Bool} (h : (a && b) = true) : a = true ∧ b = true := Bool.and_eq_true_iff.mp h
section
variable {p : Pr} {T : Wor} {n : Nat} {W : WD} {Γ : Gam} {X : Cx}
theorem visB_ok {sc : Scope} {x : Str} (h : visB sc x = true) : Vis sc x := by
  unfold visB at h
  unfold Vis
  split at h <;> first | exact .inl (by assumption) | exact .inr (.inl (by assumption)) | exact .inr (.inr (by assumption)) | cases h
theorem glB_ok {sc : Scope} {x : Str} (h : glB sc x = true) : sc.names.lookup x = some .globalImplicit := by
  unfold glB at h
  split at h
  · assumption
  · cases h
theorem Ct.gl (C : Ct p T n W Γ X) {x : Str} (h : glB Γ.sc x = true) : Gl X x := by
  show X.env.scope.names.lookup x = _
  rw [C.sc]; exact glB_ok h
theorem Ct.units (C : Ct p T n W Γ X) : X.A.units + 65 < cLine := by have := C.room.un; omega
theorem Ct.blk (C : Ct p T n W Γ X) (s : Shared) (H : Hp) (scope : Scope) (hk : scope.kind = .function) (cl : List (Str × Addr)) (Cc : Addr) (fp : List Addr) : Ct p T n (fun _ _ _ _ _ _ => False) (Γ.blk scope) (X.blk s H scope (compEnvC scope cl Cc X.env) fp) where
  fac := C.fac
  calm := C.calm
  room := C.room
  nm := C.nm
  nd := C.nd
  sc := by
    show relS scope X.env.scope = relS scope Γ.sc
    rw [C.sc]
  stor := fun x h => by
    have e : (compEnvC scope cl Cc X.env).scope = relS scope X.env.scope := rfl
    unfold storeB at h
    have h : (match scope.names.lookup x with | some .local | some .cell => true | _ => false) = true := h
    split at h
    · rename_i q
      have := lookup_relS_keep (sc := X.env.scope) (k := .local) (by decide) q
      exact ⟨.inl this, .inr this⟩
    · rename_i q
      have := lookup_relS_keep (sc := X.env.scope) (k := .cell) (by decide) q
      refine ⟨.inr this, .inl ?_⟩
      show (scope.names.lookup x == some .cell) = true
      rw [q]; rfl
    · cases h
  pas := ⟨fun _ _ _ => False, fun _ _ _ _ _ _ _ ⟨_, _, _, _, _, _, _, _, _, _, _, _, h⟩ => h.elim, fun _ _ _ _ _ _ h => h.elim⟩
end
end RL

set_option Elab.async false
set_option linter.all false
set_option maxRecDepth 100000
set_option maxHeartbeats 8000000
namespace RL
open PySem PySem.Spec PyProof.Rows L2
section
variable {X : Cx} {W : WD} {a b c : Expr} {pos : Pos}
theorem isTrue_ite (wh : Sem Value) (env : PySem.Env) : isTrue (.IfExp c a b pos) env wh = (do if ← isTrue c env (eval c env) then isTrue a env (eval a env) else isTrue b env (eval b env)) := by
  first | rfl | (unfold isTrue; rfl)
theorem dt_ite {tc ta tb : Env → M Bool} (hc : DT X W c tc) (ha : DT X W a ta) (hb : DT X W b tb) : DT X W (.IfExp c a b pos) (fun ρ => do if ← tc ρ then ta ρ else tb ρ) := by
  refine ⟨fun pins s σ H Q I q => ?_⟩
  obtain ⟨Z, φ, ρ, st, S, E, ok⟩ := q (Inv.good I)
  rw [isTrue_ite]
  have hcr := hc.run pins s σ H (fun k H1 => ∃ φ1 st1, RelSt X.K Z φ1 st1 H1 ∧ RelE X.K Z φ1 st1 H1 ρ σ ∧ Ok X.K W Z φ1 st1 H1 ((if k = true then ta ρ else tb ρ) st1) fun b φ' st' H' => Q b H') I
    (tT_bnd S E ok fun v φ1 st1 H1 e1 S1 E1 g1 ok1 => ⟨φ1, st1, S1, E1, ok1⟩)
  refine wpAny_bind (thn hcr fun k s1 ⟨H1, I1, φ1, st1, S1, E1, ok1⟩ => ?_)
  cases k with
  | true => exact ha.run pins s1 σ H1 Q I1 fun _ => ⟨Z, φ1, ρ, st1, S1, E1, ok1⟩
  | false => exact hb.run pins s1 σ H1 Q I1 fun _ => ⟨Z, φ1, ρ, st1, S1, E1, ok1⟩
theorem dw_and1 {ta : Env → M Bool} (ha : DT X W a ta) : DW X W (.BoolOp .And [a] pos) ta := pw_and1 ha
theorem dw_or1 {ta : Env → M Bool} (ha : DT X W a ta) : DW X W (.BoolOp .Or [a] pos) ta := pw_or1 ha
end
/-- the tests of other trees -/
def plainTest : Expr → Bool
  | .UnaryOp .Not _ _ => false
  | .BoolOp _ _ _ => false
  | .IfExp _ _ _ _ => false
  | .Compare _ _ _ _ => false
  | _ => true
theorem plainTest_ok {e : Expr} (h : plainTest e = true) (env : PySem.Env) (whole : Sem Value) : isTrue e env whole = (do let v ← whole; standAt e.pos; holding [v] (truthy v)) := by
  cases e with
  | UnaryOp op x p => cases op <;> first | rfl | exact absurd h Bool.false_ne_true
  | BoolOp _ _ _ => exact absurd h Bool.false_ne_true
  | IfExp _ _ _ _ => exact absurd h Bool.false_ne_true
  | Compare _ _ _ _ => exact absurd h Bool.false_ne_true
  | _ => rfl
structure DX (X : Cx) (W : WD) (x : Expr) (d : Sd) : Prop where
  val : DE X W x d.val
  tst : DT X W x d.tst
  bo : ∀ op vs pos, x = .BoolOp op vs pos → DW X W x d.tst
theorem DX.of {X : Cx} {W : WD} {x : Expr} {m : Env → M Val} (h : DE X W x m) (ht : plainTest x = true) : DX X W x (.of m) :=
  ⟨h, dt_val h (plainTest_ok ht _), fun op vs pos e => by subst e; cases ht⟩
theorem DX.mk2 {X : Cx} {W : WD} {x : Expr} {d : Sd} (h : DE X W x d.val) (h2 : DT X W x d.tst) (hb : ∀ op vs pos, x ≠ .BoolOp op vs pos) : DX X W x d :=
  ⟨h, h2, fun op vs pos e => absurd e (hb op vs pos)⟩
theorem own_snd (Γ : Gam) (own : List Nat) : (ownP Γ own).map (·.2) = own := by
  unfold ownP
  rw [List.map_map]
  exact (List.map_congr_left fun _ _ => rfl).trans (List.map_id own)
theorem all_contains {sl own : List Nat} (h : (sl.all fun i => own.contains i) = true) : ∀ i ∈ sl, i ∈ own := fun i hi => by
  have := List.all_eq_true.mp h i hi
  simpa using this
section
variable (p : Pr) (T : Wor) (n : Nat)
theorem nmB_ok {Γ : Gam} {X : Cx} {W : WD} (C : Ct p T n W Γ X) {x y : Str} (h : nmB Γ x y = true) (hb : y ∈ bltNames) : x = y ∧ Gl X y ∧ X.mg y = none := by
  obtain ⟨h1, h2⟩ := a2 h
  have e := of_decide_eq_true h1
  subst e
  exact ⟨rfl, C.gl h2, C.fac.bl _ hb⟩
theorem plainName_ok {x : Str} (h : plainName x = true) : (x == ("__debug__" : Str)) = false ∧ (x == ("__classdict__" : Str)) = false ∧ x ≠ "__name__" := by
  unfold plainName at h
  obtain ⟨h1, h2⟩ := a2 h
  obtain ⟨h3, h4⟩ := a2 h1
  exact ⟨by simpa using h3, by simpa using h4, by simpa using h2⟩
theorem Gs_len : ∀ (ts : Tgs) (es : List Expr) (Γ : Gam), ckGs T ts Γ es = true → ts.len = es.length
  | .nil, es, Γ, h => by
    unfold ckGs at h
    split at h
    · rfl
    · cases h
  | .cons t ts, es, Γ, h => by
    unfold ckGs at h
    split at h
    · rename_i y ys
      obtain ⟨_, h⟩ := a2 h
      obtain ⟨_, h⟩ := a2 h
      show ts.len + 1 = _
      rw [Gs_len ts ys Γ h]; rfl
    · cases h
theorem kws_some : ∀ {kws : List Keyword}, kws.all (fun k => k.arg.isSome) = true → kws.map (·.arg) = (kws.filterMap (·.arg)).map some
  | [], _ => rfl
  | k :: kws, h => by
    obtain ⟨h1, h2⟩ := a2 (show (k.arg.isSome && kws.all fun k => k.arg.isSome) = true from h)
    obtain ⟨x, hx⟩ := Option.isSome_iff_exists.mp h1
    rw [List.map_cons, List.filterMap_cons, hx, kws_some h2]; rfl
theorem tysB_ok {Γ : Gam} {X : Cx} {W : WD} (C : Ct p T n W Γ X) : ∀ {es : List Expr} {ts : List Ty}, tysB Γ es ts = true → TysE X es ts
  | [], [], _ => trivial
  | [], _ :: _, h => by cases h
  | .Name n' q :: es, [], h => by cases h
  | .Name n' q :: es, t :: ts, h => by
    obtain ⟨h1, h2⟩ := a2 (show (nmB Γ n' (Str.ofString t.name) && tysB Γ es ts) = true from h)
    obtain ⟨e, g1, g2⟩ := nmB_ok p T n C h1 (by cases t <;> decide +kernel)
    exact ⟨e, g1, g2, tysB_ok C h2⟩
theorem dx_never {X : Cx} {W : WD} {x : Expr} : DX X W x ⟨fun _ => RL.no, fun _ => RL.no⟩ := by
  refine ⟨⟨fun pins s σ H Q I q => ?_⟩, ⟨fun pins s σ H Q I q => ?_⟩, fun op vs pos e => ⟨fun _ pins s σ H Q I q => ?_⟩⟩
  all_goals
    obtain ⟨Z, φ, ρ, st, S, E, ok⟩ := q (Inv.good I)
    exact ok.elim
abbrev PhiN : Nat → List Val → M Val := callN p n
mutual
theorem ck_e : ∀ (e : Ex) {Γ : Gam} {X : Cx} {W : WD} {x : Expr}, Ct p T n W Γ X → ckE T e Γ x = true → DX X W x (ev (callN p n) p.glb e)
  | .non, Γ, X, W, x, C, h => by
    unfold ckE at h
    split at h
    · exact DX.of (de_const pe_non fun _ _ => .non) rfl
    · cases h
  | .bl b, Γ, X, W, x, C, h => by
    unfold ckE at h
    split at h
    · have e := of_decide_eq_true h
      subst e
      exact DX.of (de_const pe_bl fun _ _ => .bl _) rfl
    · cases h
  | .int i, Γ, X, W, x, C, h => by
    unfold ckE at h
    split at h
    · have e := of_decide_eq_true h
      subst e
      exact DX.of (de_const pe_int fun _ _ => .int _) rfl
    · cases h
  | .str z, Γ, X, W, x, C, h => by
    unfold ckE at h
    split at h
    · have e := of_decide_eq_true h
      subst e
      exact DX.of (de_const pe_str fun _ _ => .str _) rfl
    · cases h
  | .v i, Γ, X, W, x, C, h => by
    unfold ckE at h
    split at h
    · obtain ⟨h1, h3⟩ := a2 h
      obtain ⟨h1, h2⟩ := a2 h1
      obtain ⟨d1, d2, _⟩ := plainName_ok h3
      exact DX.of (de_var (pe_var (by rw [C.nm]; exact of_decide_eq_true h1) (by rw [C.sc]; exact visB_ok h2) d1 d2)) rfl
    · cases h
  | .g i, Γ, X, W, x, C, h => by
    unfold ckE at h
    split at h
    · obtain ⟨h1, h3⟩ := a2 h
      obtain ⟨h1, h2⟩ := a2 h1
      obtain ⟨d1, d2, _⟩ := plainName_ok h3
      have hi := of_decide_eq_true h1
      cases q : p.glb[i]? with
      | none =>
        refine DX.of (m := fun _ => gK p.glb i) ?_ rfl
        refine PE.at (t := fun _ _ _ => False) ⟨fun _ _ _ _ _ _ hf => hf.elim⟩ fun σ H Q Z φ ρ st S E g ok => ?_
        unfold gK at ok
        rw [q] at ok
        exact ok
      | some d =>
        obtain ⟨u, v, m1, m2, m3⟩ := C.fac.gl i _ d hi q
        have e : (fun _ => gK p.glb i : RL.Env → M Val) = fun _ => pure (.d d) := by
          funext _
          unfold gK
          rw [q]
        have := de_const (W := W) (pe_glob (pos := by assumption) (C.gl h2) m1 m2 d1) m3
        show DX X W _ (.of fun _ => gK p.glb i)
        rw [e]
        exact DX.of this rfl
    · cases h
  | .neg a, Γ, X, W, x, C, h => by
    unfold ckE at h
    split at h
    · exact DX.of (de_neg (ck_e a C h).val) rfl
    · cases h
  | .bin o a b, Γ, X, W, x, C, h => by
    unfold ckE at h
    split at h
    · obtain ⟨h1, h⟩ := a2 h
      obtain ⟨h2, h3⟩ := a2 h
      have e := of_decide_eq_true h1
      subst e
      exact DX.of (de_bin o (ck_e a C h2).val (ck_e b C h3).val) rfl
    · cases h
  | .cmp o a b, Γ, X, W, x, C, h => by
    unfold ckE at h
    split at h
    · rename_i z _
      obtain ⟨h1, h⟩ := a2 h
      obtain ⟨h0, h⟩ := a2 h
      obtain ⟨h2, h3⟩ := a2 h
      have e := of_decide_eq_true h1
      subst e
      have hm : behindInMarks o.to z = false := by cases z <;> first | rfl | exact absurd h0 Bool.false_ne_true
      exact DX.mk2 (de_cmp o C.units (ck_e a C h2).val (ck_e b C h3).val hm) (dt_cmp o C.units (ck_e a C h2).val (ck_e b C h3).val hm) fun _ _ _ e => by cases e
    · cases h
  | .cmp2 o q a b c, Γ, X, W, x, C, h => by
    unfold ckE at h
    split at h
    · rename_i zz t _
      obtain ⟨h1, h⟩ := a2 h
      obtain ⟨h1', h⟩ := a2 h
      obtain ⟨h0, h⟩ := a2 h
      obtain ⟨h2, h⟩ := a2 h
      obtain ⟨h3, h4⟩ := a2 h
      have e := of_decide_eq_true h1
      subst e
      have e := of_decide_eq_true h1'
      subst e
      have hm : lastMarks [o.to, q.to] [zz, t] = false := by cases t <;> first | rfl | exact absurd h0 Bool.false_ne_true
      exact DX.mk2 (de_cmp2 o q C.units (ck_e a C h2).val (ck_e b C h3).val (ck_e c C h4).val hm) (dt_cmp2 o q C.units (ck_e a C h2).val (ck_e b C h3).val (ck_e c C h4).val hm) fun _ _ _ e => by cases e
    · cases h
  | .and a b, Γ, X, W, x, C, h => by
    unfold ckE at h
    split at h
    · rename_i rest pos
      obtain ⟨h1, h2⟩ := a2 h
      cases rest with
      | nil =>
        have D := ck_e b C h2
        have w := dw_and (pos := pos) (ck_e a C h1).tst (dw_and1 D.tst)
        exact ⟨de_and (ck_e a C h1).val (de_one D.val), w.pt, fun _ _ _ e => by cases e; exact w⟩
      | cons r rs =>
        have D := ck_e b C h2
        have w := dw_and (pos := pos) (ck_e a C h1).tst (D.bo _ _ _ rfl)
        exact ⟨de_and (ck_e a C h1).val D.val, w.pt, fun _ _ _ e => by cases e; exact w⟩
    · cases h
  | .or a b, Γ, X, W, x, C, h => by
    unfold ckE at h
    split at h
    · rename_i rest pos
      obtain ⟨h1, h2⟩ := a2 h
      cases rest with
      | nil =>
        have D := ck_e b C h2
        have w := dw_or (pos := pos) (ck_e a C h1).tst (dw_or1 D.tst)
        exact ⟨de_or (ck_e a C h1).val (de_one D.val), w.pt, fun _ _ _ e => by cases e; exact w⟩
      | cons r rs =>
        have D := ck_e b C h2
        have w := dw_or (pos := pos) (ck_e a C h1).tst (D.bo _ _ _ rfl)
        exact ⟨de_or (ck_e a C h1).val D.val, w.pt, fun _ _ _ e => by cases e; exact w⟩
    · cases h
  | .not a, Γ, X, W, x, C, h => by
    unfold ckE at h
    split at h
    · exact DX.mk2 (de_not (ck_e a C h).val) (dt_not (ck_e a C h).tst) fun _ _ _ e => by cases e
    · cases h
  | .ite c a b, Γ, X, W, x, C, h => by
    unfold ckE at h
    split at h
    · obtain ⟨h1, h⟩ := a2 h
      obtain ⟨h2, h3⟩ := a2 h
      exact DX.mk2 (de_ite (ck_e c C h1).tst (ck_e a C h2).val (ck_e b C h3).val) (dt_ite (ck_e c C h1).tst (ck_e a C h2).tst (ck_e b C h3).tst) fun _ _ _ e => by cases e
    · cases h
  | .call f as, Γ, X, W, x, C, h => by
    unfold ckE at h
    split at h
    · obtain ⟨h1, h⟩ := a2 h
      obtain ⟨h2, h⟩ := a2 h
      obtain ⟨h3, h⟩ := a2 h
      obtain ⟨h4, h5⟩ := a2 h
      obtain ⟨d1, _, _⟩ := plainName_ok h3
      obtain ⟨g, fd, ps, m1, m2, m3⟩ := C.fac.fn f _ (of_decide_eq_true h1)
      obtain ⟨m3, m3', m4⟩ := m3
      obtain ⟨E, q1, q2⟩ := C.pas
      refine DX.of (de_call m4 C.room (C.gl h2) m1 m2 m3'.binds q1 q2 d1 h4 ?_ (ck_es as C h5).1) rfl
      rintro rfl
      cases as with
      | nil => rfl
      | cons a as => unfold ckEs at h5; cases h5
    · cases h
  | .bi b as, Γ, X, W, x, C, h => by
    unfold ckE at h
    split at h
    · obtain ⟨h1, h9⟩ := a2 h
      obtain ⟨h2, h3⟩ := a2 h9
      obtain ⟨e, g1, g2⟩ := nmB_ok p T n C h1 (by cases b <;> decide +kernel)
      subst e
      have hv : bootBuiltins (Str.ofString b.val.name) = some b.val.v := by cases b <;> decide +kernel
      exact DX.of (de_bi b C.calm g1 g2 hv (by cases b <;> decide +kernel) (by cases b <;> decide +kernel) h2 (ck_es as C h3).1) rfl
    · cases h
  | .rgT a, Γ, X, W, x, C, h => by
    unfold ckE at h
    split at h
    · obtain ⟨h1, h9⟩ := a2 h
      obtain ⟨h2, h8⟩ := a2 h9
      obtain ⟨h3, h4⟩ := a2 h8
      obtain ⟨e, g1, g2⟩ := nmB_ok p T n C h1 (by decide +kernel)
      subst e
      obtain ⟨e, g3, g4⟩ := nmB_ok p T n C h2 (by decide +kernel)
      subst e
      exact DX.of (de_rgT C.calm g1 g2 g3 g4 h3 (ck_e a C h4).val) rfl
    · cases h
  | .rgL cell a, Γ, X, W, x, C, h => by
    unfold ckE at h
    split at h
    · obtain ⟨h1, h9⟩ := a2 h
      obtain ⟨h2, h8⟩ := a2 h9
      obtain ⟨h3, h4⟩ := a2 h8
      obtain ⟨e, g1, g2⟩ := nmB_ok p T n C h1 (by decide +kernel)
      subst e
      obtain ⟨e, g3, g4⟩ := nmB_ok p T n C h2 (by decide +kernel)
      subst e
      exact DX.of (de_rgL cell C.calm g1 g2 g3 g4 h3 (ck_e a C h4).val) rfl
    · cases h
  | .rgV a b, Γ, X, W, x, C, h => by
    unfold ckE at h
    split at h
    · obtain ⟨h1, h⟩ := a2 h
      obtain ⟨h2, h⟩ := a2 h
      obtain ⟨h3, h⟩ := a2 h
      obtain ⟨h4, h5⟩ := a2 h
      obtain ⟨e, g1, g2⟩ := nmB_ok p T n C h1 (by decide +kernel)
      subst e
      exact DX.of (de_rgV g1 g2 h2 h3 (ck_e a C h4).val (ck_e b C h5).val) rfl
    · cases h
  | .listC a, Γ, X, W, x, C, h => by
    unfold ckE at h
    split at h
    · obtain ⟨h1, h⟩ := a2 h
      obtain ⟨h2, h3⟩ := a2 h
      obtain ⟨e, g1, g2⟩ := nmB_ok p T n C h1 (by decide +kernel)
      subst e
      exact DX.of (de_listC (x := "list") C.calm g1 g2 h2 (ck_e a C h3).val) rfl
    · cases h
  | .isi a t, Γ, X, W, x, C, h => by
    unfold ckE at h
    split at h
    · obtain ⟨h1, h⟩ := a2 h
      obtain ⟨h0, h⟩ := a2 h
      obtain ⟨h2, h3⟩ := a2 h
      obtain ⟨e, g1, g2⟩ := nmB_ok p T n C h1 (by decide +kernel)
      subst e
      obtain ⟨e, g3, g4⟩ := nmB_ok p T n C h0 (by cases t <;> decide +kernel)
      subst e
      exact DX.of (de_isi t g1 g2 g3 g4 h2 (ck_e a C h3).val) rfl
    · cases h
  | .tup as, Γ, X, W, x, C, h => by
    unfold ckE at h
    split at h
    · exact DX.of (de_tup (ck_es as C (a2 h).2).1) rfl
    · cases h
  | .lst cell as, Γ, X, W, x, C, h => by
    unfold ckE at h
    split at h
    · exact DX.of (de_lst cell (ck_es as C (a2 h).2).1) rfl
    · cases h
  | .ix a i, Γ, X, W, x, C, h => by
    unfold ckE at h
    split at h
    · rename_i z _
      obtain ⟨h0, h⟩ := a2 h
      obtain ⟨h2, h3⟩ := a2 h
      exact DX.of (de_ix (ck_e a C h2).val (ck_e i C h3).val (by cases z <;> first | exact fun _ _ => rfl | exact absurd h0 Bool.false_ne_true)) rfl
    · cases h
  | .sl a lo hi, Γ, X, W, x, C, h => by
    unfold ckE at h
    split at h
    · rename_i l hh _ _
      obtain ⟨h1, h⟩ := a2 h
      obtain ⟨h2, h3⟩ := a2 h
      have pl : ∀ (q : Exs) (o : Option Expr), (match o with | none => ckEs T q Γ [] | some e => ckEs T q Γ [e]) = true → (∀ e, o = some e → ∃ a, q = .cons a .nil ∧ ckE T a Γ e = true) ∧ (o = none → q = .nil) := by
        intro q o ho
        refine ⟨fun e he => ?_, fun he => ?_⟩
        · subst he
          cases q with
          | nil => unfold ckEs at ho; cases ho
          | cons a as =>
            unfold ckEs at ho
            obtain ⟨_, ho⟩ := a2 ho
            obtain ⟨h5, h6⟩ := a2 ho
            cases as with
            | nil => exact ⟨a, rfl, h5⟩
            | cons a as => unfold ckEs at h6; cases h6
        · subst he
          cases q with
          | nil => rfl
          | cons a as => unfold ckEs at ho; cases ho
      have part : ∀ (q : Exs) (o : Option Expr) (ho : (match o with | none => ckEs T q Γ [] | some e => ckEs T q Γ [e]) = true), (∀ e (a : Ex), q = .cons a .nil → ckE T a Γ e = true → DE X W e (ev (callN p n) p.glb a).val) → DO X W o (fun ρ => do let l ← (evs (callN p n) p.glb q).vals ρ; partM l) := by
        intro q o ho rec
        obtain ⟨p1, p2⟩ := pl q o ho
        cases o with
        | none => rw [p2 rfl]; exact do_none
        | some e =>
          obtain ⟨a, e1, e2⟩ := p1 e rfl
          have D := rec e a e1 e2
          rw [e1]
          exact do_some D
      exact DX.of (de_sl (ck_e a C h1).val (part lo l h2 fun e a' e1 e2 => (match lo, e1 with | .cons _ .nil, rfl => ck_e _ C e2 : DX X W e _).val) (part hi hh h3 fun e a' e1 e2 => (match hi, e1 with | .cons _ .nil, rfl => ck_e _ C e2 : DX X W e _).val)) rfl
    · cases h
  | .rev a, Γ, X, W, x, C, h => by
    unfold ckE at h
    split at h
    · exact DX.of (de_rev (ck_e a C h).val) rfl
    · cases h
  | .comp cell e t it ifs own, Γ, X, W, x, C, h => by
    unfold ckE at h
    split at h
    · rename_i elt tg iter fs scope _
      obtain ⟨h1, h⟩ := a2 h
      obtain ⟨h2, h⟩ := a2 h
      obtain ⟨h3, h⟩ := a2 h
      obtain ⟨h4, h⟩ := a2 h
      obtain ⟨h5, h⟩ := a2 h
      obtain ⟨h6, h⟩ := a2 h
      obtain ⟨h7, h8⟩ := a2 h
      have bk : BlkOk X.N X.env.scope scope (ownP Γ own) := by
        rw [C.nm, C.sc]
        exact blkOk_by h1
      have D := de_comp (W := W) (pos := by assumption) cell C.calm C.nd (ck_i it C h5) bk (sl := t.sl) (g := evG (callN p n) p.glb t) (tt := (evs (callN p n) p.glb ifs).tsts) (te := (ev (callN p n) p.glb e).val) (by rw [own_snd]; exact all_contains h2)
        (fun s H Cc cl fp => ck_g t (C.blk s H scope bk.kind cl Cc fp) h6) (fun s H Cc cl fp => (ck_es ifs (C.blk s H scope bk.kind cl Cc fp) h7).2 (of_decide_eq_true h4)) (fun s H Cc cl fp => (ck_e e (C.blk s H scope bk.kind cl Cc fp) h8).val)
        (fun x => by cases iter <;> first | rfl | exact absurd h3 Bool.false_ne_true)
      rw [own_snd] at D
      exact DX.of D rfl
    · cases h
  | .comp2 cell e t it ifs t2 it2 ifs2 own own2, Γ, X, W, x, C, h => by
    unfold ckE at h
    split at h
    · rename_i elt tg iter fs tg2 iter2 fs2 scope _
      obtain ⟨h1, h⟩ := a2 h
      obtain ⟨h2, h⟩ := a2 h
      obtain ⟨h2b, h⟩ := a2 h
      obtain ⟨h2c, h⟩ := a2 h
      obtain ⟨h3, h⟩ := a2 h
      obtain ⟨h3b, h⟩ := a2 h
      obtain ⟨h4, h⟩ := a2 h
      obtain ⟨h4b, h⟩ := a2 h
      obtain ⟨h5, h⟩ := a2 h
      obtain ⟨h6, h⟩ := a2 h
      obtain ⟨h7, h⟩ := a2 h
      obtain ⟨h8, h⟩ := a2 h
      obtain ⟨h9, h⟩ := a2 h
      obtain ⟨h10, h11⟩ := a2 h
      have bk : BlkOk X.N X.env.scope scope (ownP Γ own) := by
        rw [C.nm, C.sc]
        exact blkOk_by h1
      have D := de_comp2 (W := W) (pos := by assumption) (own2 := own2) cell C.calm C.nd (ck_i it C h5) bk (by rw [own_snd]; exact all_contains h2c) (sl := t.sl) (sl2 := t2.sl) (g := evG (callN p n) p.glb t) (g2 := evG (callN p n) p.glb t2) (tt := (evs (callN p n) p.glb ifs).tsts) (tt2 := (evs (callN p n) p.glb ifs2).tsts) (mi2 := evI (callN p n) p.glb it2) (te := (ev (callN p n) p.glb e).val) (by rw [own_snd]; exact all_contains h2) (all_contains h2b)
        (fun s H Cc cl fp => ck_g t (C.blk s H scope bk.kind cl Cc fp) h6) (fun s H Cc cl fp => (ck_es ifs (C.blk s H scope bk.kind cl Cc fp) h7).2 (of_decide_eq_true h4))
        (fun s H Cc cl fp => ck_i it2 (C.blk s H scope bk.kind cl Cc fp) h8) (fun s H Cc cl fp => ck_g t2 (C.blk s H scope bk.kind cl Cc fp) h9) (fun s H Cc cl fp => (ck_es ifs2 (C.blk s H scope bk.kind cl Cc fp) h10).2 (of_decide_eq_true h4b))
        (fun s H Cc cl fp => (ck_e e (C.blk s H scope bk.kind cl Cc fp) h11).val)
        (fun x => by cases iter <;> first | rfl | exact absurd h3 Bool.false_ne_true) (fun _ x => by cases iter2 <;> first | rfl | exact absurd h3b Bool.false_ne_true)
      rw [own_snd] at D
      exact DX.of D rfl
    · cases h
  | .compC e t it own, Γ, X, W, x, C, h => by
    unfold ckE at h
    split at h
    · rename_i elt tg iter scope _
      obtain ⟨h1, h⟩ := a2 h
      obtain ⟨h2, h⟩ := a2 h
      obtain ⟨h3, h⟩ := a2 h
      obtain ⟨h5, h⟩ := a2 h
      obtain ⟨h6, h8⟩ := a2 h
      have bk : BlkOk X.N X.env.scope scope (ownP Γ own) := by
        rw [C.nm, C.sc]
        exact blkOk_by h1
      have D := de_compC (W := W) (pos := by assumption) C.calm C.nd (ck_i it C h5) bk (sl := t.sl) (g := evG (callN p n) p.glb t) (te := (ev (callN p n) p.glb e).val) (by rw [own_snd]; exact all_contains h2)
        (fun s H Cc cl fp => ck_g t (C.blk s H scope bk.kind cl Cc fp) h6) (fun s H Cc cl fp => (ck_e e (C.blk s H scope bk.kind cl Cc fp) h8).val)
        (fun x => by cases iter <;> first | rfl | exact absurd h3 Bool.false_ne_true)
      rw [own_snd] at D
      exact DX.of D rfl
    · cases h
  | .compR cell e i src ifs own, Γ, X, W, x, C, h => by
    unfold ckE at h
    split at h
    · rename_i elt y py iter fs scope _
      obtain ⟨h1, h⟩ := a2 h
      obtain ⟨h2, h⟩ := a2 h
      obtain ⟨h3, h⟩ := a2 h
      obtain ⟨h4, h⟩ := a2 h
      obtain ⟨h5, h⟩ := a2 h
      obtain ⟨h6, h⟩ := a2 h
      obtain ⟨h7, h8⟩ := a2 h
      obtain ⟨h6a, h6b⟩ := a2 h6
      have bk : BlkOk X.N X.env.scope scope (ownP Γ own) := by
        rw [C.nm, C.sc]
        exact blkOk_by h1
      have D := de_compR (W := W) (pos := by assumption) (i0 := i) (tg := .Name y py) cell C.calm C.nd (ck_e src C h5).val bk (tt := (evs (callN p n) p.glb ifs).tsts) (te := (ev (callN p n) p.glb e).val) (by rw [own_snd]; simpa using h2)
        (fun s H Cc cl fp => by
          have C' := C.blk s H scope bk.kind cl Cc fp
          obtain ⟨q1, q2⟩ := C'.stor _ h6b
          exact dg_n C'.nd (by rw [C'.nm]; exact of_decide_eq_true h6a) q1 q2) (fun s H Cc cl fp => (ck_es ifs (C.blk s H scope bk.kind cl Cc fp) h7).2 (of_decide_eq_true h4)) (fun s H Cc cl fp => (ck_e e (C.blk s H scope bk.kind cl Cc fp) h8).val)
        (fun x => by cases iter <;> first | rfl | exact absurd h3 Bool.false_ne_true)
      rw [own_snd] at D
      exact DX.of D rfl
    · cases h
  | .never, Γ, X, W, x, C, h => dx_never
  | .callK f as kas perm, Γ, X, W, x, C, h => by
    unfold ckE at h
    split at h
    · rename_i y py es kws pc
      obtain ⟨h1, h⟩ := a2 h
      obtain ⟨h2, h⟩ := a2 h
      obtain ⟨h3, h⟩ := a2 h
      obtain ⟨h4, h⟩ := a2 h
      obtain ⟨h5, h⟩ := a2 h
      obtain ⟨h6, h⟩ := a2 h
      obtain ⟨h7, h⟩ := a2 h
      obtain ⟨h8, h⟩ := a2 h
      obtain ⟨h9, h10⟩ := a2 h
      obtain ⟨d1, _, _⟩ := plainName_ok h3
      obtain ⟨g, fd, ps, m1, m2, m3, m4, m5⟩ := C.fac.fn f _ (of_decide_eq_true h1)
      obtain ⟨E, q1, q2⟩ := C.pas
      have kn := kws_some h6
      have e1 := of_decide_eq_true h5
      have e2 : kas.len = (kws.filterMap (·.arg)).length := by
        rw [of_decide_eq_true h7]
        have := congrArg List.length kn
        simpa using this
      have D := de_callK (W := W) (pos := pc) (p' := py) m5 C.room (C.gl h2) m1 m2 m4 q1 q2 d1 h4 (ms := (evs (callN p n) p.glb as).vals) (mk := (evs (callN p n) p.glb kas).vals) (by
        rintro rfl
        cases as with
        | nil => rfl
        | cons a as => unfold ckEs at h9; cases h9) (ck_es as C h9).1 (ck_ks kas C h10) kn (by rw [m3]; exact h8)
      rw [← e1, ← e2] at D
      exact DX.of D rfl
    · cases h
  | .isiT a ts, Γ, X, W, x, C, h => by
    unfold ckE at h
    split at h
    · obtain ⟨h1, h⟩ := a2 h
      obtain ⟨h2, h⟩ := a2 h
      obtain ⟨h3, h⟩ := a2 h
      obtain ⟨h4, h5⟩ := a2 h
      obtain ⟨e, g1, g2⟩ := nmB_ok p T n C h1 (by decide +kernel)
      subst e
      exact DX.of (de_isiT ts g1 g2 (tysB_ok p T n C h2) (Nat.le_trans (of_decide_eq_true h3) (by decide)) h4 (ck_e a C h5).val) rfl
    · cases h
  | .app a b, Γ, X, W, x, C, h => by
    unfold ckE at h
    split at h
    · obtain ⟨h0, h⟩ := a2 h
      obtain ⟨h1, h⟩ := a2 h
      obtain ⟨h2, h⟩ := a2 h
      obtain ⟨h3, h⟩ := a2 h
      obtain ⟨h4, h5⟩ := a2 h
      have e := of_decide_eq_true h0
      subst e
      exact DX.of (de_app h3 h1 h2 (ck_e a C h4).val (ck_e b C h5).val) rfl
    · cases h
  | .upper a, Γ, X, W, x, C, h => by
    unfold ckE at h
    split at h
    · obtain ⟨h0, h⟩ := a2 h
      obtain ⟨h1, h⟩ := a2 h
      obtain ⟨h2, h3⟩ := a2 h
      have e := of_decide_eq_true h0
      subst e
      exact DX.of (de_upper h1 h2 (ck_e a C h3).val) rfl
    · cases h
theorem ck_es : ∀ (es : Exs) {Γ : Gam} {X : Cx} {W : WD} {xs : List Expr}, Ct p T n W Γ X → ckEs T es Γ xs = true → DA X W xs (evs (callN p n) p.glb es).vals ∧ (xs.length ≤ 1 → DTs X W xs (evs (callN p n) p.glb es).tsts)
  | .nil, Γ, X, W, xs, C, h => by
    unfold ckEs at h
    split at h
    · exact ⟨da_nil, fun _ => dts_nil⟩
    · cases h
  | .cons a as, Γ, X, W, xs, C, h => by
    unfold ckEs at h
    split at h
    · rename_i y ys
      obtain ⟨h1, h⟩ := a2 h
      obtain ⟨h2, h3⟩ := a2 h
      refine ⟨da_cons (ck_e a C h2).val (ck_es as C h3).1 h1, fun hl => ?_⟩
      cases ys with
      | cons y ys => exact absurd hl (by simp)
      | nil =>
        cases as with
        | nil => exact dts_one (ck_e a C h2).tst
        | cons a as => unfold ckEs at h3; cases h3
    · cases h
theorem ck_ks : ∀ (es : Exs) {Γ : Gam} {X : Cx} {W : WD} {xs : List Keyword}, Ct p T n W Γ X → ckKs T es Γ xs = true → DK X W xs (evs (callN p n) p.glb es).vals
  | .nil, Γ, X, W, xs, C, h => by
    unfold ckKs at h
    split at h
    · exact dk_nil
    · cases h
  | .cons a as, Γ, X, W, xs, C, h => by
    unfold ckKs at h
    split at h
    · obtain ⟨h1, h2⟩ := a2 h
      exact dk_cons (ck_e a C h1).val (ck_ks as C h2)
    · cases h
theorem ck_i : ∀ (it : It) {Γ : Gam} {X : Cx} {W : WD} {tg x : Expr}, Ct p T n W Γ X → ckI T it Γ tg x = true → DI X W tg x (evI (callN p n) p.glb it)
  | .seq e, Γ, X, W, tg, x, C, h => di_seq (ck_e e C h).val
  | .rng1 a, Γ, X, W, tg, x, C, h => by
    unfold ckI at h
    split at h
    · obtain ⟨h1, h⟩ := a2 h
      obtain ⟨h2, h3⟩ := a2 h
      obtain ⟨e, g1, g2⟩ := nmB_ok p T n C h1 (by decide +kernel)
      subst e
      exact di_rng1 g1 g2 h2 (ck_e a C h3).val
    · cases h
  | .rng2 a b, Γ, X, W, tg, x, C, h => by
    unfold ckI at h
    split at h
    · obtain ⟨h1, h⟩ := a2 h
      obtain ⟨h2, h⟩ := a2 h
      obtain ⟨h3, h⟩ := a2 h
      obtain ⟨h4, h5⟩ := a2 h
      obtain ⟨e, g1, g2⟩ := nmB_ok p T n C h1 (by decide +kernel)
      subst e
      exact di_rng2 g1 g2 h2 h3 (ck_e a C h4).val (ck_e b C h5).val
    · cases h
  | .enum a, Γ, X, W, tg, x, C, h => by
    unfold ckI at h
    split at h
    · obtain ⟨h1, h⟩ := a2 h
      obtain ⟨h2, h3⟩ := a2 h
      obtain ⟨e, g1, g2⟩ := nmB_ok p T n C h1 (by decide +kernel)
      subst e
      exact di_enum g1 g2 h2 (ck_e a C h3).val
    · cases h
  | .zip a b, Γ, X, W, tg, x, C, h => by
    unfold ckI at h
    split at h
    · obtain ⟨h1, h⟩ := a2 h
      obtain ⟨h2, h⟩ := a2 h
      obtain ⟨h3, h⟩ := a2 h
      obtain ⟨h4, h5⟩ := a2 h
      obtain ⟨e, g1, g2⟩ := nmB_ok p T n C h1 (by decide +kernel)
      subst e
      exact di_zip g1 g2 h2 h3 (ck_e a C h4).val (ck_e b C h5).val
    · cases h
theorem ck_g : ∀ (t : Tg) {Γ : Gam} {X : Cx} {W : WD} {x : Expr}, Ct p T n W Γ X → ckG T t Γ x = true → DG X W x t.sl (evG (callN p n) p.glb t)
  | .n i, Γ, X, W, x, C, h => by
    unfold ckG at h
    split at h
    · obtain ⟨h1, h2⟩ := a2 h
      obtain ⟨q1, q2⟩ := C.stor _ h2
      exact dg_n C.nd (by rw [C.nm]; exact of_decide_eq_true h1) q1 q2
    · cases h
  | .t ts, Γ, X, W, x, C, h => by
    unfold ckG at h
    split at h
    · obtain ⟨h1, h2⟩ := a2 h
      have e : evG (callN p n) p.glb (.t ts) = fun v ρ => match v with | .d (.tuple xs) => (if xs.length = ts.len then evGs (callN p n) p.glb ts xs ρ else no) | _ => no := by
        funext v ρ
        cases v with
        | d x => cases x <;> rfl
        | _ => rfl
      rw [e]
      exact dg_t C.calm (ck_gs ts C h2) h1 ts.len (Gs_len T ts _ Γ h2)
    · cases h
  | .ix o i, Γ, X, W, x, C, h => by
    unfold ckG at h
    split at h
    · rename_i z _
      obtain ⟨h0, h⟩ := a2 h
      obtain ⟨h2, h3⟩ := a2 h
      exact dg_ix (fun v => by cases z <;> first | rfl | exact absurd h0 Bool.false_ne_true) (ck_e o C h2).val (ck_e i C h3).val
    · cases h
theorem ck_gs : ∀ (ts : Tgs) {Γ : Gam} {X : Cx} {W : WD} {xs : List Expr}, Ct p T n W Γ X → ckGs T ts Γ xs = true → DGs X W xs ts.sl (evGs (callN p n) p.glb ts)
  | .nil, Γ, X, W, xs, C, h => by
    unfold ckGs at h
    split at h
    · have e : evGs (callN p n) p.glb .nil = fun xs ρ => match xs with | [] => pure ρ | _ => no := by
        funext xs ρ
        cases xs <;> rfl
      rw [e]
      exact dgs_nil
    · cases h
  | .cons t ts, Γ, X, W, xs, C, h => by
    unfold ckGs at h
    split at h
    · obtain ⟨h1, h⟩ := a2 h
      obtain ⟨h2, h3⟩ := a2 h
      have e : evGs (callN p n) p.glb (.cons t ts) = fun xs ρ => match xs with | x :: xs => (do let ρ1 ← evG (callN p n) p.glb t (.d x) ρ; evGs (callN p n) p.glb ts xs ρ1) | [] => no := by
        funext xs ρ
        cases xs <;> rfl
      rw [e]
      exact dgs_cons (ck_g t C h2) (ck_gs ts C h3) h1
    · cases h
end
end
end RL

set_option Elab.async false
set_option linter.all false
set_option maxRecDepth 100000
set_option maxHeartbeats 4000000
namespace RL
open PySem PySem.Spec PyProof.Rows L2
/-! ### statements -/
def EndOf (K : PySem.W.Frag) (Z : Addr → Prop) (D : Ends) (fl : RL.Flow) (φ : List Addr) (st : Sto) (H : Hp) : Prop :=
  match fl with
  | .nx ρ => ∀ σ, RelE K Z φ st H ρ σ → D.nx σ H
  | .brk ρ => ∀ σ, RelE K Z φ st H ρ σ → D.bk σ H
  | .ct ρ => ∀ σ, RelE K Z φ st H ρ σ → D.ct σ H
  | .ret v => ∀ u, RepV K Z φ st H u v → D.rt u H
def tS (K : PySem.W.Frag) (W : WD) (m : RL.Env → M RL.Flow) : TS := fun D σ H => Good K H → ∃ Z φ ρ st, RelSt K Z φ st H ∧ RelE K Z φ st H ρ σ ∧ Ok K W Z φ st H (m ρ st) (EndOf K Z D)
abbrev DS (X : Cx) (W : WD) (s : Stmt) (m : RL.Env → M RL.Flow) : Prop := PS X s (tS X.K W m)
abbrev DSs (X : Cx) (W : WD) (s : List Stmt) (m : RL.Env → M RL.Flow) : Prop := PSs X s (tS X.K W m)
def goodD (K : PySem.W.Frag) (D : Ends) : Ends := ⟨fun σ H => Good K H → D.nx σ H, fun v H => Good K H → D.rt v H, fun σ H => Good K H → D.bk σ H, fun σ H => Good K H → D.ct σ H⟩
section
variable {X : Cx} {W : WD} {a b c : Expr} {ma mb mc : RL.Env → M Val} {pos p2 : Pos}
theorem SP.good {pins : List (Addr × Obj)} {D : Ends} {f : PySem.Flow} {s' : Shared} (h : SP X pins (goodD X.K D) f s') : SP X pins D f s' := by
  cases f with
  | next => obtain ⟨σ, H, I, q⟩ := h; exact ⟨σ, H, I, q (Inv.good I)⟩
  | brk => obtain ⟨σ, H, I, q⟩ := h; exact ⟨σ, H, I, q (Inv.good I)⟩
  | cont => obtain ⟨σ, H, I, q⟩ := h; exact ⟨σ, H, I, q (Inv.good I)⟩
  | ret u => obtain ⟨v, σ, H, I, r, q⟩ := h; exact ⟨v, σ, H, I, r, q (Inv.good I)⟩
theorem PS.at {s : Stmt} {t : TS} {m : RL.Env → M RL.Flow} (h : PS X s t)
    (k : ∀ D σ H Z φ ρ st, RelSt X.K Z φ st H → RelE X.K Z φ st H ρ σ → Good X.K H → Ok X.K W Z φ st H (m ρ st) (EndOf X.K Z D) → t (goodD X.K D) σ H) : DS X W s m := by
  refine ⟨fun pins s σ H D I q => ?_⟩
  obtain ⟨Z, φ, ρ, st, S, E, ok⟩ := q (Inv.good I)
  exact thn (h.run pins s σ H _ I (k D σ H Z φ ρ st S E (Inv.good I) ok)) fun f s' q => SP.good q
theorem PSs.at {s : List Stmt} {t : TS} {m : RL.Env → M RL.Flow} (h : PSs X s t)
    (k : ∀ D σ H Z φ ρ st, RelSt X.K Z φ st H → RelE X.K Z φ st H ρ σ → Good X.K H → Ok X.K W Z φ st H (m ρ st) (EndOf X.K Z D) → t (goodD X.K D) σ H) : DSs X W s m := by
  refine ⟨fun pins s σ H D I q => ?_⟩
  obtain ⟨Z, φ, ρ, st, S, E, ok⟩ := q (Inv.good I)
  exact thn (h.run pins s σ H _ I (k D σ H Z φ ρ st S E (Inv.good I) ok)) fun f s' q => SP.good q
theorem dss_nil : DSs X W [] (fun ρ => pure (.nx ρ)) := PSs.at pss_nil fun D σ H Z φ ρ st S E g ok => fun g' => ok.ret S g σ E
theorem ds_pass : DS X W (.Pass pos) (fun ρ => pure (.nx ρ)) := PS.at ps_pass fun D σ H Z φ ρ st S E g ok => fun g' => ok.ret S g σ E
theorem ds_brk : DS X W (.Break pos) (fun ρ => pure (.brk ρ)) := PS.at ps_break fun D σ H Z φ ρ st S E g ok => fun g' => ok.ret S g σ E
theorem ds_cont : DS X W (.Continue pos) (fun ρ => pure (.ct ρ)) := PS.at ps_continue fun D σ H Z φ ρ st S E g ok => fun g' => ok.ret S g σ E
theorem ds_retN : DS X W (.Return none pos) (fun _ => pure (.ret (.d .none))) := PS.at ps_retN fun D σ H Z φ ρ st S E g ok => fun g' => ok.ret S g _ (.d .non)
theorem ds_ret (ha : DE X W a ma) : DS X W (.Return (some a) pos) (fun ρ => do let v ← ma ρ; pure (.ret v)) :=
  PS.at (ps_ret ha) fun D σ H Z φ ρ st S E g ok => tE_bnd S E ok fun v φ1 st1 H1 u e1 S1 E1 g1 r1 ok1 => fun g' => ok1.ret S1 g1 u r1
def notComp : Expr → Bool
  | .ListComp .. | .SetComp .. | .DictComp .. => false
  | _ => true
theorem sw_no {e : Expr} (h : notComp e = true) (t : Option Expr) (l : Nat) (env : PySem.Env) : swapsWith e t l env = pure false := by
  cases e <;> first | rfl | exact absurd h Bool.false_ne_true
theorem ds_expr (ha : DE X W a ma) (h : notComp a = true) : DS X W (.Expr a pos) (fun ρ => do let _ ← ma ρ; pure (.nx ρ)) :=
  PS.at (ps_expr ha (sw_no h _ _ _)) fun D σ H Z φ ρ st S E g ok => tE_bnd S E ok fun v φ1 st1 H1 u e1 S1 E1 g1 r1 ok1 => fun g' => ok1.ret S1 g1 σ E1
theorem dss_cons {s : Stmt} {ss : List Stmt} {m ms : RL.Env → M RL.Flow} {f : RL.Flow → M RL.Flow} (h1 : DS X W s m) (h2 : DSs X W ss ms) (hf : ∀ ρ, f (.nx ρ) = ms ρ) (hf2 : ∀ v, f (.ret v) = pure (.ret v)) (hf3 : ∀ v, f (.brk v) = pure (.brk v)) (hf4 : ∀ v, f (.ct v) = pure (.ct v)) :
    DSs X W (s :: ss) (fun ρ => do let q ← m ρ; f q) :=
  PSs.at (pss_cons h1 h2) fun D σ H Z φ ρ st S E g ok => fun _ => ⟨Z, φ, ρ, st, S, E, ok.bnd.imp fun fl φ1 st1 H1 e1 S1 g1 ok1 => by
    cases fl with
    | nx ρ1 =>
      rw [hf] at ok1
      refine fun σ1 E1 _ => ⟨Z, φ1, ρ1, st1, S1, E1, ok1.imp fun fl φ2 st2 H2 e2 S2 g2 q => ?_⟩
      cases fl with
      | nx ρ2 => exact fun σ2 E2 _ => q σ2 E2
      | ret v => exact fun u r _ => q u r
      | brk ρ2 => exact fun σ2 E2 _ => q σ2 E2
      | ct ρ2 => exact fun σ2 E2 _ => q σ2 E2
    | ret v => rw [hf2] at ok1; exact fun u r _ => ok1.ret S1 g1 u r
    | brk ρ1 => rw [hf3] at ok1; exact fun σ1 E1 _ => ok1.ret S1 g1 σ1 E1
    | ct ρ1 => rw [hf4] at ok1; exact fun σ1 E1 _ => ok1.ret S1 g1 σ1 E1⟩
theorem ds_if {s1 s2 : List Stmt} {tc : RL.Env → M Bool} {m1 m2 : RL.Env → M RL.Flow} (hc : DT X W c tc) (h1 : DSs X W s1 m1) (h2 : DSs X W s2 m2) : DS X W (.If c s1 s2 pos) (fun ρ => do if ← tc ρ then m1 ρ else m2 ρ) :=
  PS.at (ps_if hc h1 h2) fun D σ H Z φ ρ st S E g ok => tT_bnd S E ok fun v φ1 st1 H1 e1 S1 E1 g1 ok1 => by
    have fin : ∀ {m : RL.Env → M RL.Flow}, Ok X.K W Z φ1 st1 H1 (m ρ st1) (EndOf X.K Z D) → tS X.K W m (goodD X.K D) σ H1 := fun {m} h _ => ⟨Z, φ1, ρ, st1, S1, E1, h.imp fun fl φ2 st2 H2 e2 S2 g2 q => by
      cases fl with
      | nx ρ2 => exact fun σ2 E2 _ => q σ2 E2
      | ret v => exact fun u r _ => q u r
      | brk ρ2 => exact fun σ2 E2 _ => q σ2 E2
      | ct ρ2 => exact fun σ2 E2 _ => q σ2 E2⟩
    cases v with
    | true => exact fin ok1
    | false => exact fin ok1
/-! assignments -/
def notName : Expr → Bool
  | .Name _ _ => false
  | _ => true
def noSwap : Expr → Expr → Bool
  | .Tuple ts _ _, .Tuple vs _ _ => vs.all (foldedForSure 8) || ts.any notName
  | .List _ _, .Tuple _ _ _ => false
  | _, _ => true
theorem filterMap_short {α β : Type} {f : α → Option β} : ∀ {l : List α} {p : α → Bool}, (∀ x, p x = true → f x = none) → l.any p = true → (l.filterMap f).length < l.length
  | [], _, _, h => by cases h
  | x :: l, p, hp, h => by
    rw [List.any_cons, Bool.or_eq_true] at h
    rw [List.filterMap_cons]
    rcases h with h | h
    · rw [hp x h]
      exact Nat.lt_succ_of_le (List.length_filterMap_le f l)
    · have ih := filterMap_short hp h
      cases f x with
      | none => exact Nat.lt_succ_of_lt ih
      | some y => exact Nat.succ_lt_succ ih
theorem sw_none {tg e : Expr} (h : noSwap tg e = true) (env : PySem.Env) : swappedStores [tg] e env = pure none := by
  cases tg with
  | Tuple ts kt pt =>
    cases e with
    | Tuple vs kv pv =>
      have h : (vs.all (foldedForSure 8) || ts.any notName) = true := h
      rw [Bool.or_eq_true] at h
      unfold swappedStores
      dsimp only
      show (if _ then _ else _) = _
      split
      · rfl
      · show (if _ then _ else _) = _
        split
        · rfl
        · show (if _ then _ else _) = _
          split
          · rfl
          · rename_i hn
            rcases h with h | h
            · show (if _ then _ else _) = _
              rw [if_pos h]
            · exfalso
              apply hn
              have q := filterMap_short (f := fun | .Name id pos => if env.kindOf id == some .local && pos.line == (ts.head?.map (·.pos.line)).getD 0 then some id else none | _ => none) (p := notName) (fun x hx => by cases x <;> first | rfl | exact absurd hx Bool.false_ne_true) h
              simp only [Bool.or_eq_true, bne_iff_ne, ne_eq]
              exact .inl (Nat.ne_of_lt q)
    | _ => rfl
  | List ts pt =>
    cases e with
    | Tuple vs kv pv => exact absurd h Bool.false_ne_true
    | _ => rfl
  | _ => rfl
theorem ds_asg {tg : Expr} {sl : List Nat} {g : Val → RL.Env → M RL.Env} (ha : DE X W a ma) (hg : DG X W tg sl g) (hs : swapsWithSole [tg] a pos.line X.env = pure false) (hw : noSwap tg a = true) (hst : notStar tg = true) : DS X W (.Assign [tg] a pos) (fun ρ => do let v ← ma ρ; let ρ1 ← g v ρ; pure (.nx ρ1)) :=
  PS.at (ps_asg ha hg hs (sw_none hw _) (by cases tg <;> first | rfl | exact absurd hst Bool.false_ne_true)) fun D σ H Z φ ρ st S E g' ok => tE_bnd S E ok fun v φ1 st1 H1 u e1 S1 E1 g1 r1 ok1 =>
    fun _ => ⟨Z, φ1, ρ, st1, v, S1, E1, r1, ok1.bnd.imp fun ρ2 φ2 st2 H2 e2 S2 g2 q => fun σ2 E2 _ g3 => q.ret S2 g2 σ2 E2⟩
/-- name = [..] on one line -/
theorem ds_asgC {i : Nat} {y : Str} {py : Pos} {elt tg iter : Expr} {ifs : List Expr} {scope : Scope} {own : List (Str × Nat)} {mi : RL.Env → M (List RL.D)} {sl : List Nat} {g : Val → RL.Env → M RL.Env} {tt : RL.Env → M Bool} {te : RL.Env → M Val} {spos : Pos} (cell : Bool) (hc : X.calm = true) (hN : X.N.Nodup)
    (hy : X.N[i]? = some y) (hyl : X.env.scope.names.lookup y = some .local) (hsw : swapsWith (.ListComp elt [⟨tg, iter, ifs, 0⟩] scope pos) (some (.Name y py)) spos.line X.env = pure true) (hi : DI X W tg iter mi)
    (ok : BlkOk X.N X.env.scope scope own) (hsl : ∀ i ∈ sl, i ∈ own.map (·.2))
    (hg : ∀ (s : Shared) (H : Hp) (C : Addr) (cl : List (Str × Addr)) (fp : List Addr), DG (X.blk s H scope (compEnvC scope cl C X.env) fp) (fun _ _ _ _ _ _ => False) tg sl g)
    (ht : ∀ (s : Shared) (H : Hp) (C : Addr) (cl : List (Str × Addr)) (fp : List Addr), DTs (X.blk s H scope (compEnvC scope cl C X.env) fp) (fun _ _ _ _ _ _ => False) ifs tt)
    (he : ∀ (s : Shared) (H : Hp) (C : Addr) (cl : List (Str × Addr)) (fp : List Addr), DE (X.blk s H scope (compEnvC scope cl C X.env) fp) (fun _ _ _ _ _ _ => False) elt te) (hs : ∀ x, foldedSetIterable iter X.env x = pure x) :
    DS X W (.Assign [.Name y py] (.ListComp elt [⟨tg, iter, ifs, 0⟩] scope pos) spos) (fun ρ => do
      let v ← (do
        let xs ← mi ρ
        let ys ← noEx (compL (compF g tt te ρ (own.map (·.2))) xs)
        mkL cell ys : M Val)
      let ρ1 ← (pure (ρ.set i (some v)) : M RL.Env)
      pure (.nx ρ1)) :=
  PS.at (ps_setLc (te := tE X.K (fun _ _ _ _ _ _ => False) te) (g := tG X.K (fun _ _ _ _ _ _ => False) sl g) (tt := tT X.K (fun _ _ _ _ _ _ => False) tt) hc hN hy hyl hsw hi ok hg ht he hs) fun D σ H Z φ ρ st S E g' okk => by
    refine comp_tLc (Q := fun u H1 => D.nx (σ.set i (some u)) H1) hsl S E (okk.bnd.imp fun v φ1 st1 H1 e1 S1 g1 q => fun u r => ?_)
    have q2 := Ok.ret (Ok.bnd (m := (pure (ρ.set i (some v)) : M RL.Env)) q) S1 g1
    exact q2.ret S1 g1 _ ((E.ext e1).set r i)
theorem ds_asgCC {i : Nat} {y : Str} {py : Pos} {elt tg iter : Expr} {scope : Scope} {own : List (Str × Nat)} {mi : RL.Env → M (List RL.D)} {sl : List Nat} {g : Val → RL.Env → M RL.Env} {te : RL.Env → M Val} {spos : Pos} (hc : X.calm = true) (hN : X.N.Nodup)
    (hy : X.N[i]? = some y) (hyl : X.env.scope.names.lookup y = some .local) (hsw : swapsWith (.ListComp elt [⟨tg, iter, [], 0⟩] scope pos) (some (.Name y py)) spos.line X.env = pure true) (hi : DI X W tg iter mi)
    (ok : BlkOk X.N X.env.scope scope own) (hsl : ∀ i ∈ sl, i ∈ own.map (·.2))
    (hg : ∀ (s : Shared) (H : Hp) (C : Addr) (cl : List (Str × Addr)) (fp : List Addr), DG (X.blk s H scope (compEnvC scope cl C X.env) fp) (fun _ _ _ _ _ _ => False) tg sl g)
    (he : ∀ (s : Shared) (H : Hp) (C : Addr) (cl : List (Str × Addr)) (fp : List Addr), DE (X.blk s H scope (compEnvC scope cl C X.env) fp) (fun _ _ _ _ _ _ => False) elt te) (hs : ∀ x, foldedSetIterable iter X.env x = pure x) :
    DS X W (.Assign [.Name y py] (.ListComp elt [⟨tg, iter, [], 0⟩] scope pos) spos) (fun ρ => do
      let v ← (do
        let xs ← mi ρ
        let ns ← noEx (cellsL (cellF g te ρ (own.map (·.2))) xs)
        pure (.rs ns) : M Val)
      let ρ1 ← (pure (ρ.set i (some v)) : M RL.Env)
      pure (.nx ρ1)) :=
  PS.at (ps_setLc (te := tE X.K (fun _ _ _ _ _ _ => False) te) (g := tG X.K (fun _ _ _ _ _ _ => False) sl g) (tt := tT X.K (fun _ _ _ _ _ _ => False) fun _ => pure true) hc hN hy hyl hsw hi ok hg (fun _ _ _ _ _ => dts_nil) he hs) fun D σ H Z φ ρ st S E g' okk => by
    refine cell_tLc (Q := fun u H1 => D.nx (σ.set i (some u)) H1) hsl S E (okk.bnd.imp fun v φ1 st1 H1 e1 S1 g1 q => fun u r => ?_)
    have q2 := Ok.ret (Ok.bnd (m := (pure (ρ.set i (some v)) : M RL.Env)) q) S1 g1
    exact q2.ret S1 g1 _ ((E.ext e1).set r i)
theorem ds_asgC2 {i : Nat} {y : Str} {py : Pos} {elt tg iter tg1 iter1 : Expr} {ifs ifs1 : List Expr} {scope : Scope} {own : List (Str × Nat)} {own2 : List Nat} {mi mi2 : RL.Env → M (List RL.D)} {sl sl2 : List Nat} {g g2 : Val → RL.Env → M RL.Env} {tt tt2 : RL.Env → M Bool} {te : RL.Env → M Val} {spos : Pos} (cell : Bool) (hc : X.calm = true) (hN : X.N.Nodup)
    (hy : X.N[i]? = some y) (hyl : X.env.scope.names.lookup y = some .local) (hsw : swapsWith (.ListComp elt [⟨tg, iter, ifs, 0⟩, ⟨tg1, iter1, ifs1, 0⟩] scope pos) (some (.Name y py)) spos.line X.env = pure true) (hi : DI X W tg iter mi)
    (ok : BlkOk X.N X.env.scope scope own) (hv : ∀ i ∈ own2, i ∈ own.map (·.2)) (hsl : ∀ i ∈ sl, i ∈ own.map (·.2)) (hsl2 : ∀ i ∈ sl2, i ∈ own2)
    (hg : ∀ (s : Shared) (H : Hp) (C : Addr) (cl : List (Str × Addr)) (fp : List Addr), DG (X.blk s H scope (compEnvC scope cl C X.env) fp) (fun _ _ _ _ _ _ => False) tg sl g)
    (ht : ∀ (s : Shared) (H : Hp) (C : Addr) (cl : List (Str × Addr)) (fp : List Addr), DTs (X.blk s H scope (compEnvC scope cl C X.env) fp) (fun _ _ _ _ _ _ => False) ifs tt)
    (hi1 : ∀ (s : Shared) (H : Hp) (C : Addr) (cl : List (Str × Addr)) (fp : List Addr), DI (X.blk s H scope (compEnvC scope cl C X.env) fp) (fun _ _ _ _ _ _ => False) tg1 iter1 mi2)
    (hg1 : ∀ (s : Shared) (H : Hp) (C : Addr) (cl : List (Str × Addr)) (fp : List Addr), DG (X.blk s H scope (compEnvC scope cl C X.env) fp) (fun _ _ _ _ _ _ => False) tg1 sl2 g2)
    (ht1 : ∀ (s : Shared) (H : Hp) (C : Addr) (cl : List (Str × Addr)) (fp : List Addr), DTs (X.blk s H scope (compEnvC scope cl C X.env) fp) (fun _ _ _ _ _ _ => False) ifs1 tt2)
    (he : ∀ (s : Shared) (H : Hp) (C : Addr) (cl : List (Str × Addr)) (fp : List Addr), DE (X.blk s H scope (compEnvC scope cl C X.env) fp) (fun _ _ _ _ _ _ => False) elt te) (hs : ∀ x, foldedSetIterable iter X.env x = pure x) (hs1 : ∀ env x, foldedSetIterable iter1 env x = pure x) :
    DS X W (.Assign [.Name y py] (.ListComp elt [⟨tg, iter, ifs, 0⟩, ⟨tg1, iter1, ifs1, 0⟩] scope pos) spos) (fun ρ => do
      let v ← (do
        let xs ← mi ρ
        let ys ← noEx (compL (comp2F g tt mi2 (fun ρ1 => compF g2 tt2 te ρ1 own2) ρ (own.map (·.2))) xs)
        lstK cell ys : M Val)
      let ρ1 ← (pure (ρ.set i (some v)) : M RL.Env)
      pure (.nx ρ1)) :=
  PS.at (ps_setLc2 (te := tE X.K (fun _ _ _ _ _ _ => False) te) (g := tG X.K (fun _ _ _ _ _ _ => False) sl g) (tt := tT X.K (fun _ _ _ _ _ _ => False) tt) (wi1 := tI X.K (fun _ _ _ _ _ _ => False) mi2) (g1 := tG X.K (fun _ _ _ _ _ _ => False) sl2 g2) (tt1 := tT X.K (fun _ _ _ _ _ _ => False) tt2) hc hN hy hyl hsw hi ok hv hg ht hi1 hg1 ht1 he hs hs1) fun D σ H Z φ ρ st S E g' okk => by
    refine comp2_tLc (Q := fun u H1 => D.nx (σ.set i (some u)) H1) hsl hsl2 S E (okk.bnd.imp fun v φ1 st1 H1 e1 S1 g1 q => fun u r => ?_)
    have q2 := Ok.ret (Ok.bnd (m := (pure (ρ.set i (some v)) : M RL.Env)) q) S1 g1
    exact q2.ret S1 g1 _ ((E.ext e1).set r i)
theorem any_star : ∀ {es : List Expr}, allNS es = true → (es.any fun | .Starred .. => true | _ => false) = false
  | [], _ => rfl
  | e :: es, h => by
    have h := Bool.and_eq_true_iff.mp (show (notStar e && allNS es) = true from h)
    rw [List.any_cons, any_star h.2, Bool.or_false]
    cases e <;> first | rfl | exact absurd h.1 Bool.false_ne_true
theorem sw_par {x y : Str} {px py pt pt2 : Pos} {kt k2 : Nat} {env : PySem.Env} (hk : env.scope.kind = .function) (hx : env.scope.names.lookup x = some .local) (hy : env.scope.names.lookup y = some .local) (hl : py.line = px.line) (hne : x ≠ y) (ha : notStar a = true) (hb : notStar b = true)
    (hf : ([a, b].all (foldedForSure 8)) = false) (hc : ([a, b].all (constantsAlone 8)) = false) : swappedStores [.Tuple [.Name x px, .Name y py] kt pt] (.Tuple [a, b] k2 pt2) env = pure (some [x, y]) := by
  have kx : env.kindOf x = some .local := hx
  have ky : env.kindOf y = some .local := hy
  have hbk : env.blockKind = .function := by unfold Env.blockKind; rw [hk]; rfl
  unfold swappedStores
  have e1 : ([x, y].eraseDups).length = 2 := by
    simp [List.eraseDups_cons, hne, Ne.symm hne]
  have q := any_star (es := [a, b]) (by show (notStar a && (notStar b && true)) = true; rw [ha, hb]; rfl)
  dsimp only
  refine (if_neg (by rw [hbk]; exact Bool.false_ne_true)).trans ?_
  refine (if_neg fun e => Bool.false_ne_true (q.symm.trans e)).trans ?_
  have names : (List.filterMap (fun (z : Expr) => match z with | .Name id pos => if (env.kindOf id == some .local && pos.line == (([Expr.Name x px, Expr.Name y py].head?).map (·.pos.line)).getD 0) = true then some id else none | _ => none) [.Name x px, .Name y py]) = [x, y] := by
    simp [kx, ky, hl, Expr.pos]
  have names' : (List.filterMap (fun (z : Expr) => match z with | .Name id pos => if (env.kindOf id == some .local && pos.line == (([Expr.Name x px, Expr.Name y py].head?).map (·.pos.line)).getD 0) = true then some id else none | _ => none) [.Name x px, .Name y py]).length = 2 := by rw [names]; rfl
  refine (if_neg fun e => ?_).trans ?_
  · have e : ((List.filterMap (fun (z : Expr) => match z with | .Name id pos => if (env.kindOf id == some .local && pos.line == (([Expr.Name x px, Expr.Name y py].head?).map (·.pos.line)).getD 0) = true then some id else none | _ => none) [.Name x px, .Name y py]).length != 2 || ((List.filterMap (fun (z : Expr) => match z with | .Name id pos => if (env.kindOf id == some .local && pos.line == (([Expr.Name x px, Expr.Name y py].head?).map (·.pos.line)).getD 0) = true then some id else none | _ => none) [.Name x px, .Name y py]).eraseDups).length != (List.filterMap (fun (z : Expr) => match z with | .Name id pos => if (env.kindOf id == some .local && pos.line == (([Expr.Name x px, Expr.Name y py].head?).map (·.pos.line)).getD 0) = true then some id else none | _ => none) [.Name x px, .Name y py]).length) = true := e
    rw [names, e1] at e
    exact absurd e Bool.false_ne_true
  refine (if_neg (by rw [hf]; decide)).trans ?_
  refine (if_neg (by rw [hc]; decide)).trans ?_
  exact congrArg (fun z => (pure (some z) : Sem (Option (List Str)))) names
theorem sw_par3 {x y z : Str} {px py pz pt pt2 : Pos} {kt k2 : Nat} {env : PySem.Env} (hk : env.scope.kind = .function) (hx : env.scope.names.lookup x = some .local) (hy : env.scope.names.lookup y = some .local) (hz : env.scope.names.lookup z = some .local) (hl : py.line = px.line) (hl2 : pz.line = px.line) (hne : x ≠ y) (hne2 : x ≠ z) (hne3 : y ≠ z) (hs : allNS [a, b, c] = true)
    (hf : ([a, b, c].all (foldedForSure 8)) = false) (hc : ([a, b, c].all (constantsAlone 8)) = false) : swappedStores [.Tuple [.Name x px, .Name y py, .Name z pz] kt pt] (.Tuple [a, b, c] k2 pt2) env = pure (some [x, y, z]) := by
  have kx : env.kindOf x = some .local := hx
  have ky : env.kindOf y = some .local := hy
  have kz : env.kindOf z = some .local := hz
  have hbk : env.blockKind = .function := by unfold Env.blockKind; rw [hk]; rfl
  unfold swappedStores
  have e1 : ([x, y, z].eraseDups).length = 3 := by
    simp [List.eraseDups_cons, hne, Ne.symm hne, hne2, Ne.symm hne2, hne3, Ne.symm hne3]
  have q := any_star hs
  dsimp only
  refine (if_neg (by rw [hbk]; exact Bool.false_ne_true)).trans ?_
  refine (if_neg fun e => Bool.false_ne_true (q.symm.trans e)).trans ?_
  have names : (List.filterMap (fun (q : Expr) => match q with | .Name id pos => if (env.kindOf id == some .local && pos.line == (([Expr.Name x px, Expr.Name y py, Expr.Name z pz].head?).map (·.pos.line)).getD 0) = true then some id else none | _ => none) [.Name x px, .Name y py, .Name z pz]) = [x, y, z] := by
    simp [kx, ky, kz, hl, hl2, Expr.pos]
  refine (if_neg fun e => ?_).trans ?_
  · have e : ((List.filterMap (fun (q : Expr) => match q with | .Name id pos => if (env.kindOf id == some .local && pos.line == (([Expr.Name x px, Expr.Name y py, Expr.Name z pz].head?).map (·.pos.line)).getD 0) = true then some id else none | _ => none) [.Name x px, .Name y py, .Name z pz]).length != 3 || ((List.filterMap (fun (q : Expr) => match q with | .Name id pos => if (env.kindOf id == some .local && pos.line == (([Expr.Name x px, Expr.Name y py, Expr.Name z pz].head?).map (·.pos.line)).getD 0) = true then some id else none | _ => none) [.Name x px, .Name y py, .Name z pz]).eraseDups).length != (List.filterMap (fun (q : Expr) => match q with | .Name id pos => if (env.kindOf id == some .local && pos.line == (([Expr.Name x px, Expr.Name y py, Expr.Name z pz].head?).map (·.pos.line)).getD 0) = true then some id else none | _ => none) [.Name x px, .Name y py, .Name z pz]).length) = true := e
    rw [names, e1] at e
    exact absurd e Bool.false_ne_true
  refine (if_neg (by rw [hf]; decide)).trans ?_
  refine (if_neg (by rw [hc]; decide)).trans ?_
  exact congrArg (fun z => (pure (some z) : Sem (Option (List Str)))) names
theorem ds_par3 {i j l : Nat} {x y z : Str} {px py pz pt pt2 : Pos} {kt k2 : Nat} (hc : X.calm = true) (hN : X.N.Nodup) (hi : X.N[i]? = some x) (hj : X.N[j]? = some y) (hll : X.N[l]? = some z) (hij : i ≠ j) (hil : i ≠ l) (hjl : j ≠ l) (hk : X.env.scope.kind = .function) (hx : X.env.scope.names.lookup x = some .local) (hy : X.env.scope.names.lookup y = some .local) (hz : X.env.scope.names.lookup z = some .local)
    (hl : py.line = px.line) (hl2 : pz.line = px.line) (hne : x ≠ y) (hne2 : x ≠ z) (hne3 : y ≠ z) (hs : allNS [a, b, c] = true) (hf : ([a, b, c].all (foldedForSure 8)) = false) (hcc : ([a, b, c].all (constantsAlone 8)) = false) (ha : DE X W a ma) (hb : DE X W b mb) (hcE : DE X W c mc) :
    DS X W (.Assign [.Tuple [.Name x px, .Name y py, .Name z pz] kt pt] (.Tuple [a, b, c] k2 pt2) pos) (fun ρ => do let v ← ma ρ; let w ← mb ρ; let u ← mc ρ; pure (.nx (((ρ.set i (some v)).set j (some w)).set l (some u)))) := by
  obtain ⟨s1, s2⟩ := Bool.and_eq_true_iff.mp (show (notStar a && allNS [b, c]) = true from hs)
  obtain ⟨s2, s3⟩ := Bool.and_eq_true_iff.mp (show (notStar b && allNS [c]) = true from s2)
  obtain ⟨s3, _⟩ := Bool.and_eq_true_iff.mp (show (notStar c && allNS []) = true from s3)
  exact PS.at (ps_par3 hc hN hi hj hll hij hil hjl hx hy hz (pa_cons ha (pa_cons hb (pa_cons hcE pa_nil (star_ns s3 _ _)) (star_ns s2 _ _)) (star_ns s1 _ _)) (sw_par3 hk hx hy hz hl hl2 hne hne2 hne3 hs hf hcc)) fun D σ H Z φ ρ st S E g ok => by
    refine tE_bnd S E ok fun v φ1 st1 H1 u e1 S1 E1 g1 r1 ok1 => tE_bnd S1 E1 ok1 fun w φ2 st2 H2 u2 e2 S2 E2 g2 r2 ok2 => tE_bnd S2 E2 ok2 fun w3 φ3 st3 H3 u3 e3 S3 E3 g3 r3 ok3 => ?_
    exact ⟨u, u2, u3, rfl, fun g4 => ok3.ret S3 g3 _ (((E3.set (r1.ext (e2.trans e3)) i).set (r2.ext e3) j).set r3 l)⟩
theorem ds_par {i j : Nat} {x y : Str} {px py pt pt2 : Pos} {kt k2 : Nat} (hc : X.calm = true) (hN : X.N.Nodup) (hi : X.N[i]? = some x) (hj : X.N[j]? = some y) (hij : i ≠ j) (hk : X.env.scope.kind = .function) (hx : X.env.scope.names.lookup x = some .local) (hy : X.env.scope.names.lookup y = some .local)
    (hl : py.line = px.line) (hne : x ≠ y) (hsa : notStar a = true) (hsb : notStar b = true) (hf : ([a, b].all (foldedForSure 8)) = false) (hcc : ([a, b].all (constantsAlone 8)) = false) (ha : DE X W a ma) (hb : DE X W b mb) :
    DS X W (.Assign [.Tuple [.Name x px, .Name y py] kt pt] (.Tuple [a, b] k2 pt2) pos) (fun ρ => do let v ← ma ρ; let w ← mb ρ; pure (.nx ((ρ.set i (some v)).set j (some w)))) :=
  PS.at (ps_par hc hN hi hj hij hx hy (pa_cons ha (pa_cons hb pa_nil (star_ns hsb _ _)) (star_ns hsa _ _)) (sw_par hk hx hy hl hne hsa hsb hf hcc)) fun D σ H Z φ ρ st S E g ok => by
    refine tE_bnd S E ok fun v φ1 st1 H1 u e1 S1 E1 g1 r1 ok1 => tE_bnd S1 E1 ok1 fun w φ2 st2 H2 u2 e2 S2 E2 g2 r2 ok2 => ?_
    exact ⟨u, u2, rfl, fun g3 => ok2.ret S2 g2 _ ((E2.set (r1.ext e2) i).set r2 j)⟩
def augOk : BOp → Bool
  | .add | .sub | .mul | .fdiv | .mod => true
  | .pow => false
/-- in place, on ints and texts -/
def rAu (K : PySem.W.Frag) (o : BOp) : TIp := fun x y H Q => ∃ Z φ st dx dy z, RelSt K Z φ st H ∧ TVw K H (LvZ Z φ st) x dx ∧ TVw K H (LvZ Z φ st) y dy ∧ ((∃ i j, dx = .int i ∧ dy = .int j) ∨ (o = .add ∧ ∃ i j, dx = .str i ∧ dy = .str j)) ∧ opB o dx dy = some z ∧ Give K Z φ st H z Q
theorem aug_sound (o : BOp) (ho : augOk o = true) : PIp X o.to (rAu X.K o) := by
  rintro pins s σ H x y v u Q I rx ry ⟨Z, φ, st, dx, dy, z, S, hx, hy, hk, hz, g⟩
  rcases hk with ⟨i, j, rfl, rfl⟩ | ⟨rfl, i, j, rfl, rfl⟩
  · cases hx
    cases hy
    cases o with
    | add => cases hz; exact iop_add pins s σ H _ _ v u Q I rx ry ⟨_, _, rfl, rfl, g.here S (.int _)⟩
    | sub => cases hz; exact iop_sub pins s σ H _ _ v u Q I rx ry ⟨_, _, rfl, rfl, g.here S (.int _)⟩
    | mul => obtain ⟨h1, rfl⟩ := ifS hz; exact iop_mul pins s σ H _ _ v u Q I rx ry ⟨_, _, rfl, rfl, h1, g.here S (.int _)⟩
    | fdiv => obtain ⟨h1, rfl⟩ := ifS hz; exact iop_fdiv pins s σ H _ _ v u Q I rx ry ⟨_, _, rfl, rfl, h1, g.here S (.int _)⟩
    | mod => obtain ⟨h1, rfl⟩ := ifS hz; exact iop_mod pins s σ H _ _ v u Q I rx ry ⟨_, _, rfl, rfl, h1, g.here S (.int _)⟩
    | pow => cases ho
  · cases hx
    cases hy
    obtain ⟨h1, rfl⟩ := ifS hz
    exact iop_add_str pins s σ H _ _ v u Q I rx ry ⟨_, _, rfl, rfl, h1, g.here S (.str _)⟩
theorem ds_aug {i : Nat} {x : Str} {px : Pos} (o : BOp) (ho : augOk o = true) (hN : X.N.Nodup) (hi : X.N[i]? = some x) (hx : Loc X.env.scope x) (hf : X.fn x = true ∨ X.env.scope.names.lookup x = some .local) (ha : DE X W a ma) :
    DS X W (.AugAssign (.Name x px) o.to a pos) (fun ρ => do let v ← getV ρ i; let w ← ma ρ; let x ← lookTM v; let y ← lookTM w; let z ← augK o x y; pure (.nx (ρ.set i (some z)))) :=
  PS.at (ps_aug hN hi hx ha (aug_sound o ho) hf) fun D σ H Z φ ρ st S E g ok => by
    cases e : ρ[i]? with
    | none => simp only [getV, e] at ok; exact False.elim ok
    | some q =>
      cases q with
      | none => simp only [getV, e] at ok; exact False.elim ok
      | some v =>
        simp only [getV, e] at ok
        have ok0 := Ok.ret (Ok.bnd (m := (pure v : M Val)) ok) S g
        obtain ⟨u, h1, h2⟩ := E.2 i v e
        refine ⟨u, h1, tE_bnd S E ok0 fun w φ1 st1 H1 uw e1 S1 E1 g1 r1 ok1 => ?_⟩
        obtain ⟨dx, hdx, ok2⟩ := ok1.bnd.lookT S1 g1
        obtain ⟨dy, hdy, ok3⟩ := ok2.bnd.lookT S1 g1
        have v1 := lookT_tvw S1 (h2.ext e1) hdx
        have v2 := lookT_tvw S1 r1 hdy
        have fin : ∀ (hk : (∃ i j, dx = .int i ∧ dy = .int j) ∨ (o = .add ∧ ∃ i j, dx = .str i ∧ dy = .str j)) (hh : augK o dx dy = (do let z ← ofO (opB o dx dy); pure (.d z))), rAu X.K o u uw H1 fun z H2 => (goodD X.K D).nx (σ.set i (some z)) H2 := by
          intro hk hh
          rw [hh] at ok3
          obtain ⟨z, hz, ok4⟩ := (Ok.bnd (Ok.bnd ok3)).ofO S1 g1
          have ok5 := Ok.ret ok4 S1 g1
          exact ⟨Z, φ1, st1, dx, dy, z, S1, v1, v2, hk, hz, fun uz H2 e2 S2 r2 g2 => (Ok.from e2 ok5).ret S2 g2 _ ((E1.ext e2).set (.d r2) i)⟩
        cases dx with
        | int i' =>
          cases dy with
          | int j' => exact fin (.inl ⟨_, _, rfl, rfl⟩) rfl
          | _ => exact False.elim ok3
        | str i' =>
          cases dy with
          | str j' =>
            cases o with
            | add => exact fin (.inr ⟨rfl, _, _, rfl, rfl⟩) rfl
            | _ =>
              obtain ⟨z, hz, _⟩ := (Ok.bnd (m := ofO (opB _ (.str i') (.str j'))) (Ok.bnd ok3)).ofO S1 g1
              cases hz
          | _ => exact False.elim ok3
        | _ => cases dy <;> exact False.elim ok3
theorem forL_cons {asg : Val → RL.Env → M RL.Env} {body : RL.Env → M RL.Flow} {x : RL.D} {xs : List RL.D} {ρ : RL.Env} : forL asg body (x :: xs) ρ = (asg (.d x) ρ >>= fun ρ1 => body ρ1 >>= fun q => match q with
    | .nx ρ2 => forL asg body xs ρ2
    | .ct ρ2 => forL asg body xs ρ2
    | .brk ρ2 => pure (.nx ρ2)
    | .ret v => pure (.ret v)) := rfl
theorem ds_for {tg iter : Expr} {body : List Stmt} {mi : RL.Env → M (List RL.D)} {sl : List Nat} {g : Val → RL.Env → M RL.Env} {m : RL.Env → M RL.Flow} (hp : PassesOwn (model X.prog X.w) X.A X.env X.xe) (hc : X.calm = true) (hi : DI X W tg iter mi) (hg : DG X W tg sl g) (hb : DSs X W body m) (hs : notSet iter = true) :
    DS X W (.For tg iter body [] pos) (fun ρ => do let xs ← mi ρ; forL g m xs ρ) :=
  PS.at (ps_for hp hc hi hg hb (fun x => by cases iter <;> first | rfl | exact absurd hs Bool.false_ne_true)) fun D σ H Z φ ρ st S E gd ok => fun _ =>
    ⟨Z, φ, ρ, st, S, E, ok.bnd.imp fun xs φ1 st1 H1 e1 S1 g1 ok1 => fun J wk hlen => by
      obtain ⟨G, Y, w, stab, yl⟩ := wk.ex
      refine for_it w (fun i σi Hi => ∃ φi ρi sti, Ext Z φ1 st1 H1 φi sti Hi ∧ RelSt X.K Z φi sti Hi ∧ RelE X.K Z φi sti Hi ρi σi ∧ Ok X.K W Z φi sti Hi (forL g m (xs.drop i) ρi sti) (EndOf X.K Z D)) ?_ ?_ ?_ ?_
      · exact ⟨φ1, ρ, st1, .refl, S1, E.ext e1, ok1⟩
      · rintro i σi Hi hi' ⟨φi, ρi, sti, e, _⟩
        exact stab Z φi sti Hi e.keep
      · rintro i u σi Hi Hi' hi' ⟨φi, ρi, sti, e, Si, Ei, oki⟩ y
        obtain ⟨eY, SY, x, hx, rx⟩ := yl i u Hi Hi' Z φi sti hi' e.keep Si y
        rw [List.drop_eq_getElem_cons hi'] at oki
        have ex : xs[i] = x := by rw [List.getElem?_eq_getElem hi'] at hx; exact Option.some.inj hx
        rw [ex, forL_cons] at oki
        refine fun gH => ⟨Z, φi, ρi, sti, .d x, SY, Ei.ext eY, .d rx, (Ok.bnd (Ok.from eY oki)).imp fun ρ2 φ2 st2 H2 e2 S2 g2 q2 => fun σ2 E2 _ => ?_⟩
        refine fun _ => ⟨Z, φ2, ρ2, st2, S2, E2, q2.bnd.imp fun fl φ3 st3 H3 e3 S3 g3 q3 => ?_⟩
        have e4 := (e.trans eY).trans (e2.trans e3)
        cases fl with
        | nx ρ3 => exact fun σ3 E3 => ⟨φ3, ρ3, st3, e4, S3, E3, q3⟩
        | ct ρ3 => exact fun σ3 E3 => ⟨φ3, ρ3, st3, e4, S3, E3, q3⟩
        | brk ρ3 => exact fun σ3 E3 _ => Ok.ret q3 S3 g3 σ3 E3
        | ret v => exact fun u r _ => Ok.ret q3 S3 g3 u r
      · rintro σn Hn ⟨φi, ρi, sti, e, Si, Ei, oki⟩
        intro gn
        rw [List.drop_length] at oki
        exact Ok.ret (a := RL.Flow.nx ρi) oki Si gn σn Ei⟩
theorem whileL_succ {c : RL.Env → M Bool} {body : RL.Env → M RL.Flow} {n : Nat} {ρ : RL.Env} : whileL c body (n + 1) ρ = (c ρ >>= fun b => if b = true then (body ρ >>= fun q => match q with
    | .nx ρ2 => whileL c body n ρ2
    | .ct ρ2 => whileL c body n ρ2
    | .brk ρ2 => pure (.nx ρ2)
    | .ret v => pure (.ret v)) else pure (.nx ρ)) := rfl
theorem ds_while {body : List Stmt} {tc : RL.Env → M Bool} {m : RL.Env → M RL.Flow} (fuel : Nat) (hp : PassesOwn (model X.prog X.w) X.A X.env X.xe) (hc : DT X W c tc) (hb : DSs X W body m) : DS X W (.While c body [] pos) (fun ρ => whileL tc m fuel ρ) :=
  PS.at (ps_while hp hc hb) fun D σ H Z φ ρ st S E gd ok => by
    refine ⟨fun k σi Hi => ∃ φi ρi sti, Ext Z φ st H φi sti Hi ∧ RelSt X.K Z φi sti Hi ∧ RelE X.K Z φi sti Hi ρi σi ∧ Ok X.K W Z φi sti Hi (whileL tc m k ρi sti) (EndOf X.K Z D), ⟨fuel, φ, ρ, st, .refl, S, E, ok⟩, ?_⟩
    rintro k σi Hi ⟨φi, ρi, sti, e, Si, Ei, oki⟩
    cases k with
    | zero => exact False.elim oki
    | succ k =>
      rw [whileL_succ] at oki
      refine tT_bnd Si Ei oki fun b φ1 st1 H1 e1 S1 E1 g1 q1 => ?_
      cases b with
      | false => exact fun g2 => Ok.ret q1 S1 g1 σi E1
      | true =>
        rw [if_pos rfl]
        have q1 : Ok X.K W Z φ1 st1 H1 ((m ρi >>= fun q => match q with
          | .nx ρ2 => whileL tc m k ρ2
          | .ct ρ2 => whileL tc m k ρ2
          | .brk ρ2 => pure (.nx ρ2)
          | .ret v => pure (.ret v)) st1) (EndOf X.K Z D) := q1
        refine ⟨fun σ' H' => ∃ φi ρi sti, Ext Z φ st H φi sti H' ∧ RelSt X.K Z φi sti H' ∧ RelE X.K Z φi sti H' ρi σ' ∧ Ok X.K W Z φi sti H' (whileL tc m k ρi sti) (EndOf X.K Z D), fun σ' H' h => ⟨k, Nat.lt_succ_self k, h⟩, ?_⟩
        refine fun _ => ⟨Z, φ1, ρi, st1, S1, E1, q1.bnd.imp fun fl φ3 st3 H3 e3 S3 g3 q3 => ?_⟩
        have e4 := (e.trans e1).trans e3
        cases fl with
        | nx ρ3 => exact fun σ3 E3 => ⟨φ3, ρ3, st3, e4, S3, E3, q3⟩
        | ct ρ3 => exact fun σ3 E3 => ⟨φ3, ρ3, st3, e4, S3, E3, q3⟩
        | brk ρ3 => exact fun σ3 E3 _ => Ok.ret q3 S3 g3 σ3 E3
        | ret v => exact fun u r _ => Ok.ret q3 S3 g3 u r
end
end RL

set_option Elab.async false
set_option linter.all false
set_option maxRecDepth 100000
set_option maxHeartbeats 4000000
namespace RL
open PySem PySem.Spec PyProof.Rows L2
/-! ### the look at statements -/
def swB (Γ : Gam) : Expr → Expr → Bool
  | .ListComp _ _ scope pos, .Name y py => (match Γ.sc.names.lookup y with | some .local => true | _ => false) && ((py.line == pos.line) && !(scope.names.any fun (n, k) => n == y && (k == .local || k == .cell)))
  | _, _ => false
def okComp : Expr → Bool
  | .SetComp .. | .DictComp .. => false
  | _ => true
def notR : Ex → Bool
  | .compR .. => false
  | _ => true
mutual
def ckS (T : Wor) : Sm → Gam → Stmt → Bool
  | .pass, _, x => (match x with
    | .Pass _ => true
    | _ => false)
  | .brk, _, x => (match x with
    | .Break _ => true
    | _ => false)
  | .cont, _, x => (match x with
    | .Continue _ => true
    | _ => false)
  | .expr e, Γ, x => (match x with
    | .Expr y _ => notComp y && ckE T e Γ y
    | _ => false)
  | .ret e, Γ, x => (match x with
    | .Return (some y) _ => ckE T e Γ y
    | _ => false)
  | .retN, _, x => (match x with
    | .Return none _ => true
    | _ => false)
  | .asg t e, Γ, x => (match x with
    | .Assign [tg] y _ => noSwap tg y && (notStar tg && (okComp y && (notR e && (ckG T t Γ tg && ckE T e Γ y))))
    | _ => false)
  | .par i j a b, Γ, x => (match x with
    | .Assign [.Tuple [.Name y py, .Name z pz] _ _] (.Tuple [v, w] _ _) _ => decide (Γ.N[i]? = some y) && (decide (Γ.N[j]? = some z) && (decide (i ≠ j) && (decide (Γ.sc.names.lookup y = some .local) && (decide (Γ.sc.names.lookup z = some .local) && (decide (pz.line = py.line) && (decide (y ≠ z) && (notStar v && (notStar w &&
      (!([v, w].all (foldedForSure 8)) && (!([v, w].all (constantsAlone 8)) && (ckE T a Γ v && ckE T b Γ w)))))))))))
    | _ => false)
  | .par3 i j l a b c, Γ, x => (match x with
    | .Assign [.Tuple [.Name y py, .Name z pz, .Name t pt] _ _] (.Tuple [v, w, u] _ _) _ => decide (Γ.N[i]? = some y ∧ Γ.N[j]? = some z ∧ Γ.N[l]? = some t ∧ i ≠ j ∧ i ≠ l ∧ j ≠ l) && (decide (Γ.sc.names.lookup y = some .local ∧ Γ.sc.names.lookup z = some .local ∧ Γ.sc.names.lookup t = some .local ∧ pz.line = py.line ∧ pt.line = py.line ∧ y ≠ z ∧ y ≠ t ∧ z ≠ t) && (allNS [v, w, u] &&
      (!([v, w, u].all (foldedForSure 8)) && (!([v, w, u].all (constantsAlone 8)) && (ckE T a Γ v && (ckE T b Γ w && ckE T c Γ u))))))
    | _ => false)
  | .aug i o e, Γ, x => (match x with
    | .AugAssign (.Name y _) op v _ => decide (Γ.N[i]? = some y) && (storeB Γ y && (augOk o && (bOp o op && ckE T e Γ v)))
    | _ => false)
  | .iff c a b, Γ, x => (match x with
    | .If t ys zs _ => ckE T c Γ t && (ckSs T a Γ ys && ckSs T b Γ zs)
    | _ => false)
  | .for_ t it b, Γ, x => (match x with
    | .For tg iter ys [] _ => notSet iter && (ckI T it Γ tg iter && (ckG T t Γ tg && ckSs T b Γ ys))
    | _ => false)
  | .while_ _ c b, Γ, x => (match x with
    | .While t ys [] _ => ckE T c Γ t && ckSs T b Γ ys
    | _ => false)
  | .raise_ _ _, _, _ => false
  | .never, _, _ => true
def ckSs (T : Wor) : Sms → Gam → List Stmt → Bool
  | .nil, _, xs => (match xs with
    | [] => true
    | _ => false)
  | .cons a as, Γ, xs => (match xs with
    | y :: ys => ckS T a Γ y && ckSs T as Γ ys
    | [] => false)
end
section
variable (p : Pr) (T : Wor) (n : Nat)
theorem sw_eq {Γ : Gam} {X : Cx} {W : WD} (C : Ct p T n W Γ X) (hk : Γ.sc.kind = .function) {e tg : Expr} (h : okComp e = true) (l : Nat) : swapsWithSole [tg] e l X.env = pure (swB Γ e tg) := by
  have hbk : X.env.blockKind = .function := by unfold Env.blockKind; rw [C.sc, hk]; rfl
  cases e with
  | ListComp elt gs scope pos =>
    show swapsWith (.ListComp elt gs scope pos) (some tg) l X.env = _
    cases tg with
    | Name y py =>
      have ky : X.env.kindOf y = Γ.sc.names.lookup y := by show X.env.scope.names.lookup y = _; rw [C.sc]
      unfold swapsWith
      dsimp only
      rw [hbk, ky]
      show pure _ = pure _
      have e1 : swB Γ (.ListComp elt gs scope pos) (.Name y py) = ((match Γ.sc.names.lookup y with | some .local => true | _ => false) && ((py.line == pos.line) && !(scope.names.any fun (n, k) => n == y && (k == .local || k == .cell)))) := by
        unfold swB; rfl
      rw [e1]
      congr 1
      cases q : Γ.sc.names.lookup y with
      | none => rfl
      | some k => cases k <;> rfl
    | _ => rfl
  | SetComp => exact absurd h Bool.false_ne_true
  | DictComp => exact absurd h Bool.false_ne_true
  | _ => rfl
mutual
theorem ck_s : ∀ (s : Sm) {Γ : Gam} {X : Cx} {W : WD} {x : Stmt}, Ct p T n W Γ X → Γ.sc.kind = .function → PassesOwn (model X.prog X.w) X.A X.env X.xe → ckS T s Γ x = true → DS X W x (exS (callN p n) p.glb s)
  | .pass, Γ, X, W, x, C, hk, hp, h => by
    unfold ckS at h
    split at h
    · exact ds_pass
    · cases h
  | .brk, Γ, X, W, x, C, hk, hp, h => by
    unfold ckS at h
    split at h
    · exact ds_brk
    · cases h
  | .cont, Γ, X, W, x, C, hk, hp, h => by
    unfold ckS at h
    split at h
    · exact ds_cont
    · cases h
  | .expr e, Γ, X, W, x, C, hk, hp, h => by
    unfold ckS at h
    split at h
    · obtain ⟨h1, h2⟩ := a2 h
      exact ds_expr (ck_e p T n e C h2).val h1
    · cases h
  | .ret e, Γ, X, W, x, C, hk, hp, h => by
    unfold ckS at h
    split at h
    · exact ds_ret (ck_e p T n e C h).val
    · cases h
  | .retN, Γ, X, W, x, C, hk, hp, h => by
    unfold ckS at h
    split at h
    · exact ds_retN
    · cases h
  | .asg t e, Γ, X, W, x, C, hk, hp, h => by
    unfold ckS at h
    split at h
    · rename_i tg y pos
      obtain ⟨h1, h9⟩ := a2 h
      obtain ⟨h2, h8⟩ := a2 h9
      obtain ⟨h3, h7⟩ := a2 h8
      obtain ⟨h6, h10⟩ := a2 h7
      obtain ⟨h4, h5⟩ := a2 h10
      have sw := sw_eq p T n C hk (tg := tg) h3 pos.line
      cases hb : swB Γ y tg with
      | false =>
        rw [hb] at sw
        exact ds_asg (ck_e p T n e C h5).val (ck_g p T n t C h4) sw h1 h2
      | true =>
        rw [hb] at sw
        -- a comprehension stored within its own frame
        unfold swB at hb
        split at hb
        · skip
          rename_i elt gs scope cpos y' py
          cases e with
          | comp cell e2 t2 it ifs own =>
            unfold ckE at h5
            split at h5
            · rename_i elt0 tg0 iter0 fs0 scope0 pos0 hx
              have hx1 := Expr.ListComp.inj hx
              obtain ⟨rfl, rfl, rfl, rfl⟩ := hx1
              clear hx
              obtain ⟨q1, h⟩ := a2 h5
              obtain ⟨q2, h⟩ := a2 h
              obtain ⟨q3, h⟩ := a2 h
              obtain ⟨q4, h⟩ := a2 h
              obtain ⟨q5, h⟩ := a2 h
              obtain ⟨q6, h⟩ := a2 h
              obtain ⟨q7, q8⟩ := a2 h
              have bk : BlkOk X.N X.env.scope scope (ownP Γ own) := by
                rw [C.nm, C.sc]
                exact blkOk_by q1
              obtain ⟨hl, _⟩ := a2 hb
              have hyl : X.env.scope.names.lookup y' = some .local := by
                rw [C.sc]
                split at hl
                · assumption
                · cases hl
              cases t with
              | n i =>
                unfold ckG at h4
                obtain ⟨g1, g2⟩ := a2 h4
                have D := ds_asgC (W := W) (spos := pos) (py := py) cell C.calm C.nd (i := i) (y := y') (by rw [C.nm]; exact of_decide_eq_true g1) hyl sw (ck_i p T n it C q5) bk (sl := t2.sl) (g := evG (callN p n) p.glb t2) (tt := (evs (callN p n) p.glb ifs).tsts) (te := (ev (callN p n) p.glb e2).val) (by rw [own_snd]; exact all_contains q2)
                  (fun s H Cc cl fp => ck_g p T n t2 (C.blk s H _ bk.kind cl Cc fp) q6) (fun s H Cc cl fp => (ck_es p T n ifs (C.blk s H _ bk.kind cl Cc fp) q7).2 (of_decide_eq_true q4)) (fun s H Cc cl fp => (ck_e p T n e2 (C.blk s H _ bk.kind cl Cc fp) q8).val)
                  (fun x => by cases iter0 <;> first | rfl | exact absurd q3 Bool.false_ne_true)
                rw [own_snd] at D
                exact D
              | t ts => unfold ckG at h4; cases h4
              | ix o k => unfold ckG at h4; cases h4
            · cases h5
          | comp2 cell e2 t2 it ifs t3 it3 ifs3 own own2 =>
            unfold ckE at h5
            split at h5
            · rename_i elt0 tg0 iter0 fs0 tg1 iter1 fs1 scope0 pos0 hx
              have hx1 := Expr.ListComp.inj hx
              obtain ⟨rfl, rfl, rfl, rfl⟩ := hx1
              clear hx
              obtain ⟨q1, h⟩ := a2 h5
              obtain ⟨q2, h⟩ := a2 h
              obtain ⟨q2b, h⟩ := a2 h
              obtain ⟨q2c, h⟩ := a2 h
              obtain ⟨q3, h⟩ := a2 h
              obtain ⟨q3b, h⟩ := a2 h
              obtain ⟨q4, h⟩ := a2 h
              obtain ⟨q4b, h⟩ := a2 h
              obtain ⟨q5, h⟩ := a2 h
              obtain ⟨q6, h⟩ := a2 h
              obtain ⟨q7, h⟩ := a2 h
              obtain ⟨q8, h⟩ := a2 h
              obtain ⟨q9, h⟩ := a2 h
              obtain ⟨q10, q11⟩ := a2 h
              have bk : BlkOk X.N X.env.scope scope (ownP Γ own) := by
                rw [C.nm, C.sc]
                exact blkOk_by q1
              obtain ⟨hl, _⟩ := a2 hb
              have hyl : X.env.scope.names.lookup y' = some .local := by
                rw [C.sc]
                split at hl
                · assumption
                · cases hl
              cases t with
              | n i =>
                unfold ckG at h4
                obtain ⟨g1, g2⟩ := a2 h4
                have D := ds_asgC2 (W := W) (spos := pos) (py := py) (own2 := own2) cell C.calm C.nd (i := i) (y := y') (by rw [C.nm]; exact of_decide_eq_true g1) hyl sw (ck_i p T n it C q5) bk (by rw [own_snd]; exact all_contains q2c) (sl := t2.sl) (sl2 := t3.sl) (g := evG (callN p n) p.glb t2) (g2 := evG (callN p n) p.glb t3) (tt := (evs (callN p n) p.glb ifs).tsts) (tt2 := (evs (callN p n) p.glb ifs3).tsts) (mi2 := evI (callN p n) p.glb it3) (te := (ev (callN p n) p.glb e2).val) (by rw [own_snd]; exact all_contains q2) (all_contains q2b)
                  (fun s H Cc cl fp => ck_g p T n t2 (C.blk s H _ bk.kind cl Cc fp) q6) (fun s H Cc cl fp => (ck_es p T n ifs (C.blk s H _ bk.kind cl Cc fp) q7).2 (of_decide_eq_true q4))
                  (fun s H Cc cl fp => ck_i p T n it3 (C.blk s H _ bk.kind cl Cc fp) q8) (fun s H Cc cl fp => ck_g p T n t3 (C.blk s H _ bk.kind cl Cc fp) q9) (fun s H Cc cl fp => (ck_es p T n ifs3 (C.blk s H _ bk.kind cl Cc fp) q10).2 (of_decide_eq_true q4b))
                  (fun s H Cc cl fp => (ck_e p T n e2 (C.blk s H _ bk.kind cl Cc fp) q11).val)
                  (fun x => by cases iter0 <;> first | rfl | exact absurd q3 Bool.false_ne_true) (fun _ x => by cases iter1 <;> first | rfl | exact absurd q3b Bool.false_ne_true)
                rw [own_snd] at D
                exact D
              | t ts => unfold ckG at h4; cases h4
              | ix o k => unfold ckG at h4; cases h4
            · cases h5
          | compC e2 t2 it own =>
            unfold ckE at h5
            split at h5
            · rename_i elt0 tg0 iter0 scope0 pos0 hx
              have hx1 := Expr.ListComp.inj hx
              obtain ⟨rfl, rfl, rfl, rfl⟩ := hx1
              clear hx
              obtain ⟨q1, h⟩ := a2 h5
              obtain ⟨q2, h⟩ := a2 h
              obtain ⟨q3, h⟩ := a2 h
              obtain ⟨q5, h⟩ := a2 h
              obtain ⟨q6, q8⟩ := a2 h
              have bk : BlkOk X.N X.env.scope scope (ownP Γ own) := by
                rw [C.nm, C.sc]
                exact blkOk_by q1
              obtain ⟨hl, _⟩ := a2 hb
              have hyl : X.env.scope.names.lookup y' = some .local := by
                rw [C.sc]
                split at hl
                · assumption
                · cases hl
              cases t with
              | n i =>
                unfold ckG at h4
                obtain ⟨g1, g2⟩ := a2 h4
                have D := ds_asgCC (W := W) (spos := pos) (py := py) C.calm C.nd (i := i) (y := y') (by rw [C.nm]; exact of_decide_eq_true g1) hyl sw (ck_i p T n it C q5) bk (sl := t2.sl) (g := evG (callN p n) p.glb t2) (te := (ev (callN p n) p.glb e2).val) (by rw [own_snd]; exact all_contains q2)
                  (fun s H Cc cl fp => ck_g p T n t2 (C.blk s H _ bk.kind cl Cc fp) q6) (fun s H Cc cl fp => (ck_e p T n e2 (C.blk s H _ bk.kind cl Cc fp) q8).val)
                  (fun x => by cases iter0 <;> first | rfl | exact absurd q3 Bool.false_ne_true)
                rw [own_snd] at D
                exact D
              | t ts => unfold ckG at h4; cases h4
              | ix o k => unfold ckG at h4; cases h4
            · cases h5
          | compR => exact absurd h6 Bool.false_ne_true
          | never => exact ⟨fun pins s σ H D I q => by
              obtain ⟨Z, φ, ρ, st, S, E, ok⟩ := q (Inv.good I)
              exact ok.elim⟩
          | _ => unfold ckE at h5; cases h5
        · cases hb
    · cases h
  | .par i j a b, Γ, X, W, x, C, hk, hp, h => by
    unfold ckS at h
    split at h
    · obtain ⟨h1, h⟩ := a2 h
      obtain ⟨h2, h⟩ := a2 h
      obtain ⟨h3, h⟩ := a2 h
      obtain ⟨h4, h⟩ := a2 h
      obtain ⟨h5, h⟩ := a2 h
      obtain ⟨h6, h⟩ := a2 h
      obtain ⟨h7, h⟩ := a2 h
      obtain ⟨h8, h⟩ := a2 h
      obtain ⟨h9, h⟩ := a2 h
      obtain ⟨h10, h⟩ := a2 h
      obtain ⟨h11, h⟩ := a2 h
      obtain ⟨h12, h13⟩ := a2 h
      exact ds_par C.calm C.nd (by rw [C.nm]; exact of_decide_eq_true h1) (by rw [C.nm]; exact of_decide_eq_true h2) (of_decide_eq_true h3) (by rw [C.sc]; exact hk) (by rw [C.sc]; exact of_decide_eq_true h4) (by rw [C.sc]; exact of_decide_eq_true h5)
        (of_decide_eq_true h6) (of_decide_eq_true h7) h8 h9 (by rw [Bool.not_eq_true'] at h10; exact h10) (by rw [Bool.not_eq_true'] at h11; exact h11) (ck_e p T n a C h12).val (ck_e p T n b C h13).val
    · cases h
  | .par3 i j l a b c, Γ, X, W, x, C, hk, hp, h => by
    unfold ckS at h
    split at h
    · obtain ⟨h1, h⟩ := a2 h
      obtain ⟨h2, h⟩ := a2 h
      obtain ⟨h3, h⟩ := a2 h
      obtain ⟨h4, h⟩ := a2 h
      obtain ⟨h5, h⟩ := a2 h
      obtain ⟨h6, h⟩ := a2 h
      obtain ⟨h7, h8⟩ := a2 h
      obtain ⟨q1, q2, q3, q4, q5, q6⟩ := of_decide_eq_true h1
      obtain ⟨p1, p2, p3, p4, p5, p6, p7, p8⟩ := of_decide_eq_true h2
      exact ds_par3 C.calm C.nd (by rw [C.nm]; exact q1) (by rw [C.nm]; exact q2) (by rw [C.nm]; exact q3) q4 q5 q6 (by rw [C.sc]; exact hk) (by rw [C.sc]; exact p1) (by rw [C.sc]; exact p2) (by rw [C.sc]; exact p3)
        p4 p5 p6 p7 p8 h3 (by rw [Bool.not_eq_true'] at h4; exact h4) (by rw [Bool.not_eq_true'] at h5; exact h5) (ck_e p T n a C h6).val (ck_e p T n b C h7).val (ck_e p T n c C h8).val
    · cases h
  | .aug i o e, Γ, X, W, x, C, hk, hp, h => by
    unfold ckS at h
    split at h
    · obtain ⟨h1, h⟩ := a2 h
      obtain ⟨h2, h⟩ := a2 h
      obtain ⟨h3, h⟩ := a2 h
      obtain ⟨h4, h5⟩ := a2 h
      have e := of_decide_eq_true h4
      subst e
      obtain ⟨q1, q2⟩ := C.stor _ h2
      exact ds_aug o h3 C.nd (by rw [C.nm]; exact of_decide_eq_true h1) q1 q2 (ck_e p T n _ C h5).val
    · cases h
  | .iff c a b, Γ, X, W, x, C, hk, hp, h => by
    unfold ckS at h
    split at h
    · obtain ⟨h1, h⟩ := a2 h
      obtain ⟨h2, h3⟩ := a2 h
      exact ds_if (ck_e p T n c C h1).tst (ck_ss a C hk hp h2) (ck_ss b C hk hp h3)
    · cases h
  | .for_ t it b, Γ, X, W, x, C, hk, hp, h => by
    unfold ckS at h
    split at h
    · obtain ⟨h1, h⟩ := a2 h
      obtain ⟨h2, h⟩ := a2 h
      obtain ⟨h3, h4⟩ := a2 h
      exact ds_for hp C.calm (ck_i p T n it C h2) (ck_g p T n t C h3) (ck_ss b C hk hp h4) h1
    · cases h
  | .while_ f c b, Γ, X, W, x, C, hk, hp, h => by
    unfold ckS at h
    split at h
    · obtain ⟨h1, h2⟩ := a2 h
      exact ds_while f hp (ck_e p T n c C h1).tst (ck_ss b C hk hp h2)
    · cases h
  | .raise_ _ _, Γ, X, W, x, C, hk, hp, h => by unfold ckS at h; cases h
  | .never, Γ, X, W, x, C, hk, hp, h => by
    refine ⟨fun pins s σ H D I q => ?_⟩
    obtain ⟨Z, φ, ρ, st, S, E, ok⟩ := q (Inv.good I)
    exact ok.elim
theorem ck_ss : ∀ (s : Sms) {Γ : Gam} {X : Cx} {W : WD} {xs : List Stmt}, Ct p T n W Γ X → Γ.sc.kind = .function → PassesOwn (model X.prog X.w) X.A X.env X.xe → ckSs T s Γ xs = true → DSs X W xs (exSs (callN p n) p.glb s)
  | .nil, Γ, X, W, xs, C, hk, hp, h => by
    unfold ckSs at h
    split at h
    · exact dss_nil
    · cases h
  | .cons a as, Γ, X, W, xs, C, hk, hp, h => by
    unfold ckSs at h
    split at h
    · obtain ⟨h1, h2⟩ := a2 h
      exact dss_cons (f := fun q => match q with | .nx ρ1 => exSs (callN p n) p.glb as ρ1 | f => pure f) (ck_s a C hk hp h1) (ck_ss as C hk hp h2) (fun _ => rfl) (fun _ => rfl) (fun _ => rfl) (fun _ => rfl)
    · cases h
end
end
end RL

set_option Elab.async false
set_option linter.all false
set_option maxRecDepth 100000
set_option maxHeartbeats 4000000
namespace RL
open PySem PySem.Spec PyProof.Rows L2
/-! ### a def's end -/
section
variable {K : PySem.W.Frag} {W : WD} {Z : Addr → Prop} {φ φ' : List Addr} {st st1 : Sto} {H H' : Hp}
theorem live_take {k : Nat} {a : Addr} (hk : φ' = φ ++ φ'.drop k) (hl : φ.length = k) (h : Live φ (st1.take k) a) : Live φ' st1 a := by
  obtain ⟨n, xs, h1, h2⟩ := h
  have hn : n < φ.length := (List.getElem?_eq_some_iff.mp h1).1
  refine ⟨n, xs, ?_, ?_⟩
  · rw [hk, List.getElem?_append_left hn]; exact h1
  · rw [List.getElem?_take_of_lt (by omega)] at h2; exact h2
theorem cut_ext (S : RelSt K Z φ st H) (e : Ext Z φ st H φ' st1 H') (S' : RelSt K Z φ' st1 H') : Ext Z φ st H φ (st1.take st.length) H' ∧ RelSt K Z φ (st1.take st.length) H' ∧ ∀ a, ¬ LvZ Z φ' st1 a → ¬ LvZ Z φ (st1.take st.length) a := by
  obtain ⟨t, ht⟩ := e.pre
  have hk : φ' = φ ++ φ'.drop st.length := by rw [ht, ← S.len, List.drop_left]
  have nl : ∀ a, ¬ LvZ Z φ' st1 a → ¬ LvZ Z φ (st1.take st.length) a := fun a n h => n (h.imp (live_take hk S.len) id)
  refine ⟨⟨⟨[], by simp⟩, fun a h n => absurd h n, fun a o h n => ⟨(e.keep a o h n).1, nl a (e.keep a o h n).2⟩, e.zk, e.isS⟩, ⟨?_, S.nd, fun n a c h1 h2 => ?_, fun a z => ⟨(S.res a z).1, (S'.res a z).2⟩⟩, nl⟩
  · have l1 := S'.len
    have l2 := congrArg List.length ht
    rw [List.length_append] at l2
    rw [List.length_take, S.len]
    have := S.len
    omega
  · have hn : n < φ.length := (List.getElem?_eq_some_iff.mp h1).1
    have hn2 : n < st.length := by rw [← S.len]; exact hn
    rw [List.getElem?_take_of_lt hn2] at h2
    obtain ⟨us, h3, h4⟩ := S'.cell n a c (e.get h1) h2
    exact ⟨us, h3, h4.mono fun a o h n => ⟨h, nl a n⟩⟩
theorem fin_ok (S : RelSt K Z φ st H) (e : Ext Z φ st H φ' st1 H') (S' : RelSt K Z φ' st1 H') (g : Good K H') {u : V} {v : Val} {cell : Bool} {Q : VK} (r : RepV K Z φ' st1 H' u v)
    (h : Ok K W Z φ st H (fin cell st.length v st1) fun v φ' st' H' => ∀ u, RepV K Z φ' st' H' u v → Q u H') : Q u H' := by
  obtain ⟨e2, S2, nl⟩ := cut_ext S e S'
  cases r with
  | d r => exact h φ H' e2 S2 g _ (.d (r.mono fun a o h n => ⟨h, nl a n⟩))
  | s hs n => exact h φ H' e2 S2 g _ (.s (hs.mono fun a o h n => ⟨h, nl a n⟩) n)
  | rs _ _ _ => exact False.elim h
  | g hh n => exact h φ H' e2 S2 g _ (.g hh (nl _ n))
  | @r a n ha =>
    have h : Ok K W Z φ st H (if n < st.length then R.ok (Val.r n) (st1.take st.length) else match st1[n]? with
      | some c => if cell = true then .ok (.r st.length) (st1.take st.length ++ [c]) else .ok (.d (.list c.xs)) (st1.take st.length)
      | none => .no) _ := h
    obtain ⟨t, ht⟩ := e.pre
    by_cases hn : n < st.length
    · rw [if_pos hn] at h
      refine h φ H' e2 S2 g _ (.r ?_)
      rw [ht, List.getElem?_append_left (by rw [S.len]; exact hn)] at ha
      exact ha
    · rw [if_neg hn] at h
      have hge : st.length ≤ n := Nat.le_of_not_lt hn
      have na : a ∉ φ := fun hm => by
        obtain ⟨j, hj, ej⟩ := List.mem_iff_getElem.mp hm
        have h1 : φ'[j]? = some a := e.get (by rw [List.getElem?_eq_getElem hj, ej])
        have h2 := (List.getElem?_eq_some_iff.mp ha)
        have h3 := (List.getElem?_eq_some_iff.mp h1)
        obtain ⟨l2, e2⟩ := h2
        obtain ⟨l3, e3⟩ := h3
        have := (List.getElem?_inj l3 S'.nd).mp (h1.trans ha.symm)
        have := S.len
        omega
      have nZ : ¬ Z a := fun z => (S'.res a z).1 (List.mem_of_getElem? ha)
      have hna : H a = none := e.new a (List.mem_of_getElem? ha) na
      cases q : st1[n]? with
      | none => rw [q] at h; exact False.elim h
      | some c =>
        rw [q] at h
        obtain ⟨us, h3, h4⟩ := S'.cell n a c ha q
        cases cell with
        | false =>
          refine h φ H' e2 S2 g _ (.d (.lst h3 ?_ (h4.mono fun a o h n => ⟨h, nl a n⟩)))
          rintro (⟨m, xs, h5, h6⟩ | z)
          · exact na (List.mem_of_getElem? h5)
          · exact nZ z
        | true =>
          have hl : (st1.take st.length).length = st.length := S2.len ▸ S.len
          have nl2 : ∀ b, ¬ LvZ Z φ' st1 b → ¬ LvZ Z (φ ++ [a]) (st1.take st.length ++ [c]) b := fun b nb => by
            rintro (⟨m, xs, h5, h6⟩ | z)
            · by_cases hm : m < φ.length
              · rw [List.getElem?_append_left hm] at h5
                rw [List.getElem?_append_left (by rw [hl, ← S.len]; exact hm)] at h6
                exact nl b nb (.inl ⟨m, xs, h5, h6⟩)
              · have hm2 : m = φ.length := by
                  have := (List.getElem?_eq_some_iff.mp h5).1
                  simp at this
                  omega
                subst hm2
                simp at h5
                subst h5
                rw [List.getElem?_append_right (by rw [hl, S.len]; exact Nat.le_refl _), hl, S.len] at h6
                simp at h6
                subst h6
                exact nb (.inl ⟨n, xs, ha, q⟩)
            · exact nb (.inr z)
          refine h (φ ++ [a]) H' ⟨⟨[a], rfl⟩, fun b hb nb => ?_, fun b o hb nb => ⟨(e.keep b o hb nb).1, nl2 b (e.keep b o hb nb).2⟩, e.zk, e.isS⟩ ⟨by simp [S2.len], ?_, fun m b c' h5 h6 => ?_, fun b z => ⟨fun hm => ?_, (S'.res b z).2⟩⟩ g _ (.r (by rw [← S.len]; simp))
          · rcases List.mem_append.mp hb with x | x
            · exact absurd x nb
            · rw [List.mem_singleton.mp x]; exact hna
          · rw [List.nodup_append]
            refine ⟨S.nd, by simp, fun x hx y hy => ?_⟩
            rw [List.mem_singleton.mp hy]
            intro q
            exact na (q ▸ hx)
          · by_cases hm : m < φ.length
            · rw [List.getElem?_append_left hm] at h5
              rw [List.getElem?_append_left (by rw [hl, ← S.len]; exact hm)] at h6
              obtain ⟨ws, h7, h8⟩ := S'.cell m b c' (e.get h5) (by rw [List.getElem?_take_of_lt (by rw [← S.len]; exact hm)] at h6; exact h6)
              exact ⟨ws, h7, h8.mono fun a o h n => ⟨h, nl2 a n⟩⟩
            · have hm2 : m = φ.length := by
                have := (List.getElem?_eq_some_iff.mp h5).1
                simp at this
                omega
              subst hm2
              simp at h5
              subst h5
              rw [List.getElem?_append_right (by rw [hl, S.len]; exact Nat.le_refl _), hl, S.len] at h6
              simp at h6
              subst h6
              exact ⟨us, h3, h4.mono fun a o h n => ⟨h, nl2 a n⟩⟩
          · rcases List.mem_append.mp hm with x | x
            · exact (S.res b z).1 x
            · rw [List.mem_singleton.mp x] at z; exact nZ z
end
theorem good_of {P : Program} {w : World} {H : Hp} {h : Heap} (hok : HOk P w H h) (K : PySem.W.Frag) : Good K H := fun a xs hq => by
  rcases hq with (hq | ⟨o, its, n, _, _, _, _, hz, r⟩) | (hq | ⟨o, its, n, _, _, _, hz, r⟩)
  · obtain ⟨z, _⟩ := hq.ok hok; exact z
  · rw [r.length]; simpa using hz
  · obtain ⟨z, _⟩ := hq.ok hok; exact z
  · rw [r.length]; simpa using hz
/-! ### a text's defs -/
structure DefI where
  nm : Str
  st : Stmt
  N : List Str
  ps : List Str
  fi : FnI
def plainArgs (ps : List Str) : Arguments → Bool
  | ⟨[], as, none, [], [], none, []⟩ => decide (as.map (·.arg) = ps)
  | _ => false
def scopeB (N ps : List Str) (sc : Scope) : Bool :=
  decide (sc.kind = .function) && (!sc.isCoroutine && (!sc.isGenerator && (decide N.Nodup && (decide (N.take ps.length = ps) && ((ps.all fun x => decide (sc.names.lookup x = some .local) || decide (sc.names.lookup x = some .cell)) && (sc.names.all fun y => decide (y.2 ≠ .free)))))))
theorem scopeB_ok {N ps : List Str} {sc : Scope} (h : scopeB N ps sc = true) : FnScope N ps sc := by
  obtain ⟨h1, h⟩ := a2 h
  obtain ⟨h2, h⟩ := a2 h
  obtain ⟨h3, h⟩ := a2 h
  obtain ⟨h4, h⟩ := a2 h
  obtain ⟨h5, h⟩ := a2 h
  obtain ⟨h6, h7⟩ := a2 h
  refine ⟨of_decide_eq_true h1, by simpa using h2, by simpa using h3, of_decide_eq_true h4, of_decide_eq_true h5, fun x hx => ?_, fun y hy => of_decide_eq_true (List.all_eq_true.mp h7 y hy)⟩
  have := List.all_eq_true.mp h6 x hx
  rw [Bool.or_eq_true] at this
  exact this.imp of_decide_eq_true of_decide_eq_true
def ckD (T : Wor) (d : DefI) : Bool :=
  plainArgs d.ps (defArgs d.st) && (decide d.ps.Nodup && (scopeB d.N d.ps (defScope d.st) && (decide (d.fi.arity = d.ps.length) && (decide (d.fi.slots = d.N.length) && ckSs T d.fi.body ⟨d.N, defScope d.st, defScope d.st⟩ (defBody d.st)))))
abbrev DefAt (K : PySem.W.Frag) (mg : Str → Option Value) (d : DefI) : Prop := ∃ f fd, mg d.nm = some (.ref f) ∧ FunD K d.nm d.nm (defArgs d.st) (defBody d.st) (defScope d.st) [] [] f fd
section
variable {P : Program} {w : World} {K : PySem.W.Frag} {mg : Str → Option Value} {base : Heap} {p : Pr} {T : Wor}
theorem simple_of {d : DefI} {f : Addr} {fd : FuncData} (F : FunD K d.nm d.nm (defArgs d.st) (defBody d.st) (defScope d.st) [] [] f fd) (h : plainArgs d.ps (defArgs d.st) = true) (hn : d.ps.Nodup) : SimpleFd fd d.ps := by
  obtain ⟨oc, od, dV, kV, doc, pm, an, cdv, ct, osl, e, lk, hcd, hD, hK⟩ := F.ex
  unfold plainArgs at h
  split at h
  · rename_i as q
    rw [q] at e
    rcases hD with ⟨_, e2⟩ | ⟨z, _⟩
    · subst e2
      exact ⟨_, _, as, _, _, kV, doc, pm, an, cdv, ct, e, (of_decide_eq_true h).symm, hn⟩
    · exact absurd rfl z
  · cases h
theorem startE_rel {Z : Addr → Prop} {φ : List Addr} {st : Sto} {H : Hp} {us : List V} {vs : List Val} {N : List Str} {k : Nat} (r : RepVs K Z φ st H us vs) (hk : k = N.length) : RelE K Z φ st H (startE k vs) (L2.start N us) := by
  have hl := r.length
  refine ⟨?_, fun i v h => ?_⟩
  · unfold startE L2.start
    simp [hl, hk]
  · unfold startE at h
    have hi : i < vs.length := by
      rcases Nat.lt_or_ge i vs.length with q | q
      · exact q
      · rw [List.getElem?_append_right (by simpa using q), List.getElem?_replicate] at h
        split at h <;> cases h
    rw [List.getElem?_append_left (by simpa using hi), List.getElem?_map] at h
    have get : ∀ {us : List V} {vs : List Val} (r : RepVs K Z φ st H us vs) (i : Nat) (v : Val), vs[i]? = some v → ∃ u, us[i]? = some u ∧ RepV K Z φ st H u v := by
      clear hl h hi r
      intro us vs r
      induction r with
      | nil => intro i v h; simp at h
      | @cons u us v0 vs h r ih =>
        intro i v h'
        cases i with
        | zero => simp at h'; subst h'; exact ⟨u, rfl, h⟩
        | succ i => simpa using ih i v (by simpa using h')
    cases q : vs[i]? with
    | none => rw [q] at h; cases h
    | some v' =>
      rw [q] at h
      cases h
      obtain ⟨u, h1, h2⟩ := get r i v q
      refine ⟨u, ?_, h2⟩
      unfold L2.start
      rw [List.getElem?_append_left (by simp; omega), List.getElem?_map, h1]; rfl
theorem run_all (ds : List DefI) (hT : T.fns = ds.map (·.nm)) (hP : T.par = ds.map (·.ps)) (hp : p.fns = ds.map (·.fi)) (hck : ∀ d ∈ ds, ckD T d = true) (hF : ∀ d ∈ ds, DefAt K mg d)
    (hG : ∀ (i : Nat) (x : Str) (d : D), T.glb[i]? = some x → p.glb[i]? = some d → ∃ u v, mg x = some u ∧ RelV v u ∧ ∀ H L, Rep K H L v d) (hB : ∀ x ∈ bltNames, mg x = none) :
    ∀ n, (∀ (i : Nat) (d : DefI) (f : Addr) (fd : FuncData), ds[i]? = some d → FunD K d.nm d.nm (defArgs d.st) (defBody d.st) (defScope d.st) [] [] f fd → FnOk P w K mg base (CX P w) n f fd d.ps (spN T p mg K i n))
  | 0, i, d, f, fd, hd, F => by
    refine ⟨fun vs H Q E hs => ?_, fun A outer s H args us vs Q E hr e0 hb hv hs => ?_⟩
    · obtain ⟨⟨fi, h1, h2⟩, _⟩ := hs
      have hc := hck d (List.mem_of_getElem? hd)
      obtain ⟨_, hc⟩ := a2 hc
      obtain ⟨_, hc⟩ := a2 hc
      obtain ⟨_, hc⟩ := a2 hc
      obtain ⟨h3, _⟩ := a2 hc
      rw [hp, List.getElem?_map, hd] at h1
      cases h1
      rw [h2, of_decide_eq_true h3]
    · obtain ⟨_, hg⟩ := hs
      obtain ⟨Z, φ, st, vs', S, r, ok⟩ := hg (good_of e0.hok K)
      exact ok.elim
  | n + 1, i, d, f, fd, hd, F => by
    have hc := hck d (List.mem_of_getElem? hd)
    obtain ⟨c1, hc⟩ := a2 hc
    obtain ⟨c2, hc⟩ := a2 hc
    obtain ⟨c3, hc⟩ := a2 hc
    obtain ⟨c4, hc⟩ := a2 hc
    obtain ⟨c5, c6⟩ := a2 hc
    have hfi : p.fns[i]? = some d.fi := by rw [hp, List.getElem?_map, hd]; rfl
    have S := scopeB_ok c3
    have fac : Fac p T n P w K mg base := by
      refine ⟨fun j x hx => ?_, hG, hB⟩
      rw [hT, List.getElem?_map] at hx
      cases q : ds[j]? with
      | none => rw [q] at hx; cases hx
      | some d' =>
        rw [q] at hx
        cases hx
        have hm := List.mem_of_getElem? q
        obtain ⟨f', fd', m1, F'⟩ := hF d' hm
        have hc' := hck d' hm
        obtain ⟨z1, hc'⟩ := a2 hc'
        obtain ⟨z2, _⟩ := a2 hc'
        refine ⟨f', fd', d'.ps, m1, F'.kp, ?_, simple_of F' z1 (of_decide_eq_true z2), run_all ds hT hP hp hck hF hG hB n j d' f' fd' q F'⟩
        rw [hP, List.getD, List.getElem?_map, q]; rfl
    refine F.ok S (fun vs H Q E hs => ?_) (fun cdv A outer s H vs Q E hr hs => ⟨tS K (WE T mg K E) (exSs (callN p n) p.glb d.fi.body), ?_, ?_⟩)
    · obtain ⟨⟨fi, h1, h2⟩, _⟩ := hs
      rw [hfi] at h1
      cases h1
      rw [h2, of_decide_eq_true c4]
    · refine ck_ss p T n d.fi.body (Γ := ⟨d.N, defScope d.st, defScope d.st⟩) (X := cxOf (CX P w) P w K mg base d.N d.nm (defScope d.st) f cdv A outer s H E) ⟨fac, rfl, hr, rfl, S.nd, rfl, fun x hx => ?_, E, passes_call (takes_of rfl rfl rfl rfl) (fun _ _ _ _ h => h), fun _ _ _ _ _ _ h => h⟩ S.kind (passes_of rfl) c6
      unfold storeB at hx
      refine ⟨?_, .inl rfl⟩
      have hx : (match (defScope d.st).names.lookup x with | some .local | some .cell => true | _ => false) = true := hx
      split at hx
      · exact .inl (by assumption)
      · exact .inr (by assumption)
      · cases hx
    · intro g
      obtain ⟨_, hg⟩ := hs
      obtain ⟨Z, φ, st, vs', S', r, ok⟩ := hg g
      refine ⟨Z, φ, startE d.fi.slots vs', st, S', startE_rel r (of_decide_eq_true c5), ?_⟩
      have hlen : vs'.length = d.fi.arity := by
        obtain ⟨fi, h1, h2⟩ := callN_arity (p := p) (n := n + 1) (i := i) (vs := vs') (st := st) (fun e => by rw [e] at ok; exact ok)
        rw [hfi] at h1
        cases h1
        exact h2
      have e1 : callN p (n + 1) i vs' st = runF (callN p n) p.glb d.fi vs' st := by
        conv => lhs; unfold callN
        rw [hfi]
        simp only [if_pos hlen]
      rw [e1] at ok
      unfold runF at ok
      have ok : Ok K (WE T mg K E) Z φ st H (M.bnd (exSs (callN p n) p.glb d.fi.body (startE d.fi.slots vs')) (fun q => match q with
        | .ret v => fin d.fi.cell st.length v
        | .nx _ => fin d.fi.cell st.length (.d .none)
        | _ => RL.no) st) _ := ok
      unfold M.bnd at ok
      cases q : exSs (callN p n) p.glb d.fi.body (startE d.fi.slots vs') st with
      | no => rw [q] at ok; exact ok.elim
      | ex c x s1 => rw [q] at ok; exact ok
      | ok fl s1 =>
        rw [q] at ok
        intro φ' H' e' S1 g1
        cases fl with
        | nx ρ1 => exact fun σ _ => fin_ok S' e' S1 g1 (.d .non) ok
        | ret v => exact fun u r1 => fin_ok S' e' S1 g1 r1 ok
        | brk ρ1 => exact ok.elim
        | ct ρ1 => exact ok.elim
end
end RL

set_option Elab.async false
set_option linter.all false
set_option maxRecDepth 100000
set_option maxHeartbeats 4000000
namespace RL
open PySem PySem.Spec PyProof.Rows L2
/-! ### the head: constants, defs, built-ins -/
def valB (K : PySem.W.Frag) : Nat → Value → D → Bool
  | 0, _, _ => false
  | n + 1, u, d => match u, d with
    | .none, .none => true
    | .bool b, .bool c => b == c
    | .int i _, .int j => decide (i = j)
    | .str x _, .str y => decide (x = y)
    | .ref a, .tuple xs => match K.lookup a with
      | some ⟨.type c, _, .seq its _, _⟩ => decide (c = "tuple") && (decide (its.size ≤ sizeLine) && (decide (its.toList.length = xs.length) && (its.toList.zip xs).all fun q => valB K n q.1 q.2))
      | _ => false
    | _, _ => false
theorem valB_ok {K : PySem.W.Frag} : ∀ (n : Nat) (u : Value) (d : D), valB K n u d = true → ∃ v, RelV v u ∧ ∀ H L, Rep K H L v d
  | 0, _, _, h => by cases h
  | n + 1, u, d, h => by
    unfold valB at h
    split at h
    · exact ⟨.non, rfl, fun _ _ => .non⟩
    · have e := eq_of_beq h
      subst e
      exact ⟨.bl _, rfl, fun _ _ => .bl _⟩
    · have e := of_decide_eq_true h
      subst e
      exact ⟨.int _, ⟨_, rfl⟩, fun _ _ => .int _⟩
    · have e := of_decide_eq_true h
      subst e
      exact ⟨.str _, ⟨_, rfl⟩, fun _ _ => .str _⟩
    · rename_i a xs
      split at h
      · rename_i c od its m sl q
        obtain ⟨h1, h⟩ := a2 h
        obtain ⟨h2, h⟩ := a2 h
        obtain ⟨h3, h4⟩ := a2 h
        have e := of_decide_eq_true h1
        subst e
        have key : ∀ (us : List Value) (xs : List D), us.length = xs.length → ((us.zip xs).all fun q => valB K n q.1 q.2) = true → ∃ vs, Vals vs us ∧ ∀ H L, Reps K H L vs xs := by
          intro us
          induction us with
          | nil =>
            intro xs hl _
            cases xs with
            | nil => exact ⟨[], .nil, fun _ _ => .nil⟩
            | cons _ _ => cases hl
          | cons u us ih =>
            intro xs hl ha
            cases xs with
            | nil => cases hl
            | cons x xs =>
              obtain ⟨k1, k2⟩ := a2 (show (valB K n u x && (us.zip xs).all fun q => valB K n q.1 q.2) = true from ha)
              obtain ⟨v, r1, r2⟩ := valB_ok n u x k1
              obtain ⟨vs, r3, r4⟩ := ih xs (by simpa using hl) k2
              exact ⟨v :: vs, .cons r1 r3, fun H L => .cons (r2 H L) (r4 H L)⟩
        obtain ⟨vs, r3, r4⟩ := key _ _ (of_decide_eq_true h3) h4
        exact ⟨.ref a, rfl, fun H L => .tupK ⟨_, its, m, q, rfl, rfl, of_decide_eq_true h2, r3⟩ (r4 H L)⟩
      · cases h
    · cases h
def consB (K : PySem.W.Frag) (cs : List (Str × D)) : Bool := cs.all fun c => match PySem.W.nsIn K mainGlobals c.1 with
  | some (some u) => valB K 6 u c.2
  | _ => false
abbrev AlR : Type := Bool × He.AlD
def obsR (fa : List He.Fa) (fn : List He.DefD) (cs : List (Str × D)) (K : PySem.W.Frag) : AlR := (consB K cs, He.obsD fa fn K)
def valR (fn : List He.DefD) : AlR := (true, He.valD fn)
def obsRG (n : Nat) (fa : List He.Fa) (fn : List He.DefD) (cs : List (Str × D)) (g : Addr → Option Obj) : AlR := obsR fa fn cs (He.frG g (He.asD g n))
def hookR (n : Nat) (fa : List He.Fa) (fn : List He.DefD) (cs : List (Str × D)) : PySem.W.Hook where
  α := AlR
  obs := fun s => obsRG n fa fn cs s.heap.get?
  val := fun _ => valR fn
  says := fun _ h => ∃ K : PySem.W.Frag, K.In h ∧ obsR fa fn cs K = valR fn
  of := fun _ _ e => ⟨_, He.frG_in, e⟩
  keeps := fun _ _ _ ⟨K, hK, c⟩ k => ⟨K, PySem.W.Frag.In.keeps hK k, c⟩
theorem obsRG_eq {n : Nat} {fa : List He.Fa} {fn : List He.DefD} {cs : List (Str × D)} {g : Addr → Option Obj} {s : Shared} (h : ∀ a, g a = s.heap.get? a) : obsRG n fa fn cs g = (hookR n fa fn cs).obs s := by
  have e : g = s.heap.get? := funext h
  rw [e] <;> rfl
/-! the facts of a text's defs -/
def faR (nms : List Str) : List He.Fa := nms.map He.Fa.glo ++ bltNames.map He.Fa.free
def fnR (ds : List (Str × Stmt)) : List He.DefD := ds.map fun d => ⟨(d.1, none), d.1, d.1, defArgs d.2, defBody d.2, defScope d.2, [], []⟩
theorem said {K : PySem.W.Frag} {h : Heap} {mg : Str → Option Value} {ds : List (Str × Stmt)} {cs : List (Str × D)} (X : K.In h) (G : h.Ns mainGlobals mg) (e : obsR (faR (ds.map (·.1))) (fnR ds) cs K = valR (fnR ds)) :
    (∀ d ∈ ds, ∃ f fd, mg d.1 = some (.ref f) ∧ FunD K d.1 d.1 (defArgs d.2) (defBody d.2) (defScope d.2) [] [] f fd) ∧ (∀ x ∈ bltNames, mg x = none) ∧
    (∀ c ∈ cs, ∃ u v, mg c.1 = some u ∧ RelV v u ∧ ∀ H L, Rep K H L v c.2) := by
  have e1 : consB K cs = true := congrArg (fun z : AlR => z.1) e
  have e2 : He.SaysD (faR (ds.map (·.1))) (fnR ds) K := congrArg (fun z : AlR => z.2) e
  refine ⟨fun d hd => ?_, fun x hx => ?_, fun c hc => ?_⟩
  · obtain ⟨i, hi, ei⟩ := List.mem_iff_getElem.mp hd
    have hi' : ds[i]? = some d := by rw [List.getElem?_eq_getElem hi, ei]
    obtain ⟨fd, F⟩ := e2.def_ i (d := ⟨(d.1, none), d.1, d.1, defArgs d.2, defBody d.2, defScope d.2, [], []⟩) (by unfold fnR; rw [List.getElem?_map, hi']; rfl)
    have g1 := He.glo_ok X G (e2.fact i (f := .glo d.1) (by
      unfold faR
      rw [List.getElem?_append_left (by simpa using hi), List.getElem?_map, List.getElem?_map, hi']; rfl))
    exact ⟨_, fd, g1, F⟩
  · obtain ⟨i, hi, ei⟩ := List.mem_iff_getElem.mp hx
    exact He.free_ok X G (e2.fact ((ds.map (·.1)).length + i) (f := .free x) (by
      unfold faR
      rw [List.getElem?_append_right (by simp), List.getElem?_map]
      have : (ds.map (·.1)).length + i - ((ds.map (·.1)).map He.Fa.glo).length = i := by simp
      rw [this, List.getElem?_eq_getElem hi, ei]; rfl))
  · have h1 := List.all_eq_true.mp e1 c hc
    split at h1
    · rename_i u q
      obtain ⟨v, r1, r2⟩ := valB_ok _ _ _ h1
      exact ⟨u, v, PySem.W.mg_of X G q, r1, r2⟩
    · cases h1
theorem _root_.L2.FnOk.cx {P : Program} {w : World} {K : PySem.W.Frag} {mg : Str → Option Value} {base : Heap} {CX CX' : CXT} {k : Nat} {f : Addr} {fd : FuncData} {ps : List Str} {sp : Sp} (F : FnOk P w K mg base CX k f fd ps sp)
    (h : ∀ outer H s E u s', CX outer H s E u s' → CX' outer H s E u s') : FnOk P w K mg base CX' k f fd ps sp :=
  ⟨F.len, fun A outer s H args us vs Q E hr he hb hv hs => codeAny_mono (F.run A outer s H args us vs Q E hr he hb hv hs) fun r s' hq => by
    cases r with
    | ok fl => cases fl <;> exact hq
    | error e => exact h _ _ _ _ _ _ hq⟩
/-- the walk's end: what is left is plain -/
theorem end_all {l : PySem.W.OpenLaw} {q : Program} {loose : List Str} {XP : (Str → Option Value) → Heap → Prop} {d : DefRec} {n na k : Nat} {ds : List DefI} {p : Pr} {T : Wor} {cs : List (Str × D)} {i : Nat} {dl : DefI} {x : Str}
    (hn : l.most = some n) (hn2 : n ≤ sizeLine) (hdf : d.params.defaults = []) (hr : Room k callerA)
    (hT : T.fns = ds.map (·.nm)) (hP : T.par = ds.map (·.ps)) (hp : p.fns = ds.map (·.fi)) (hck : ds.all (ckD T) = true) (hg1 : T.glb = cs.map (·.1)) (hg2 : p.glb = cs.map (·.2))
    (hi : ds[i]? = some dl) (hnm : dl.nm = d.name) (hps : dl.ps = [x])
    (plain : ∀ ns : List Int, ns.length ≤ n → ∃ st', callN p k i [.s ns] [] = .ok (.d (.bool true)) st') :
    PySem.W.WalkO q loose XP (hookR na (faR ((ds.map fun d => (d.nm, d.st)).map (·.1))) (fnR (ds.map fun d => (d.nm, d.st))) cs).says l.row.toRowW d [] (fun f vs => PySem.call f vs) := by
  refine walk_ofE (CX := fun outer H s E u s' => ∃ w, CX l.prog w outer H s E u s') (n := n) (k := k) (x := x) hn hn2 hdf hr ?_ ?_
  · intro w mg fa h Y G hmg
    obtain ⟨K, KX, e⟩ := Y
    obtain ⟨f1, f2, f3⟩ := said KX G e
    have hF : ∀ d ∈ ds, DefAt K mg d := fun d hd => f1 (d.nm, d.st) (List.mem_map.mpr ⟨d, hd, rfl⟩)
    have hck' : ∀ d ∈ ds, ckD T d = true := fun d hd => List.all_eq_true.mp hck d hd
    have hdl := List.mem_of_getElem? hi
    obtain ⟨f, fd, m1, F⟩ := hF dl hdl
    rw [hnm, hmg] at m1
    cases m1
    have hc := hck' dl hdl
    obtain ⟨c1, hc⟩ := a2 hc
    obtain ⟨c2, hc⟩ := a2 hc
    obtain ⟨c3, hc⟩ := a2 hc
    obtain ⟨c4, _⟩ := a2 hc
    have sf := simple_of F c1 (of_decide_eq_true c2)
    refine ⟨K, fd, spN T p mg K i k, KX, fun s u => .of_eq (by
      have := sf.bind (us := [u]) (by rw [hps]; rfl)
      rw [hps] at this
      exact this), fun H a ns hl hO hS => ?_, fun base hb hb2 => ?_⟩
    · obtain ⟨st', hpl⟩ := plain ns hl
      refine ⟨⟨dl.fi, by rw [hp, List.getElem?_map, hi]; rfl, ?_⟩, fun g => ⟨fun _ => False, [], [], [.s ns], ⟨rfl, .nil, fun n a c h => by simp at h, fun _ z => z.elim⟩, .cons (.s ?_ trivial) .nil, ?_⟩⟩
      · rw [of_decide_eq_true c4, hps]; rfl
      · rcases hS with (hS | ⟨o, hS⟩) | hS
        · rcases hO a with z | ⟨o, xs, z⟩
          · rw [hS] at z; cases z
          · rw [hS] at z; cases z
        · refine .inl ⟨o, hS, ?_⟩
          rintro (⟨m, xs, h1, _⟩ | z)
          · simp at h1
          · exact z
        · exact .inr hS
      · rw [hpl]
        intro φ' H' e' S' g' u r
        cases r with
        | d r => cases r; rfl
    · have R := run_all (P := l.prog) (w := w) (base := base) ds hT hP hp hck' hF (fun j y d' h1 h2 => by
        rw [hg1, List.getElem?_map] at h1
        rw [hg2, List.getElem?_map] at h2
        cases qc : cs[j]? with
        | none => rw [qc] at h1; cases h1
        | some c =>
          rw [qc] at h1 h2
          cases h1
          cases h2
          exact f3 c (List.mem_of_getElem? qc)) f2 k i dl _ fd hi F
      rw [hps] at R
      exact R.cx fun outer H s E u s' h => ⟨w, h⟩
  · rintro H s e s' ⟨w, a, B, H', cls, d', _, _, _, _, _, _, _, h⟩
    exact h
end RL

set_option Elab.async false
set_option linter.all false
set_option maxRecDepth 100000
set_option maxHeartbeats 4000000
namespace RL
open PySem PySem.Spec PyProof.Rows L2
/-! ### what a run comes to -/
def Go {α : Type} (m : M α) (st : Sto) (Q : α → Sto → Prop) : Prop := ∃ a st', m st = .ok a st' ∧ Q a st'
section
variable {α β : Type} {m : M α} {f : α → M β} {st : Sto} {Q : α → Sto → Prop} {Q2 : β → Sto → Prop}
theorem Go.imp {P : α → Sto → Prop} (h : Go m st P) (k : ∀ a s, P a s → Q a s) : Go m st Q := let ⟨a, s, e, q⟩ := h; ⟨a, s, e, k a s q⟩
theorem go_pure {a : α} : Go (pure a : M α) st Q ↔ Q a st := ⟨fun ⟨_, _, e, q⟩ => by cases e; exact q, fun q => ⟨_, _, rfl, q⟩⟩
theorem go_bind : Go (m >>= f) st Q2 ↔ Go m st fun a s => Go (f a) s Q2 := by
  constructor
  · rintro ⟨b, s', e, q⟩
    have e : M.bnd m f st = .ok b s' := e
    unfold M.bnd at e
    cases h : m st with
    | ok a s => rw [h] at e; exact ⟨a, s, h, b, s', e, q⟩
    | ex c x s => rw [h] at e; cases e
    | no => rw [h] at e; cases e
  · rintro ⟨a, s, h, b, s', e, q⟩
    refine ⟨b, s', ?_, q⟩
    show M.bnd m f st = _
    unfold M.bnd
    rw [h]; exact e
theorem go_ofO {o : Option α} : Go (ofO o) st Q ↔ ∃ a, o = some a ∧ Q a st := by
  cases o with
  | none => exact ⟨fun ⟨_, _, e, _⟩ => (by cases e), fun ⟨_, e, _⟩ => (by cases e)⟩
  | some a => exact ⟨fun ⟨_, _, e, q⟩ => by cases e; exact ⟨_, rfl, q⟩, fun ⟨_, e, q⟩ => by cases e; exact ⟨_, _, rfl, q⟩⟩
theorem go_no : Go (RL.no : M α) st Q ↔ False := ⟨fun ⟨_, _, e, _⟩ => (by cases e), False.elim⟩
theorem go_ite {c : Prop} [Decidable c] {m m' : M α} : Go (if c then m else m') st Q ↔ if c then Go m st Q else Go m' st Q := by
  by_cases h : c
  · rw [if_pos h, if_pos h]
  · rw [if_neg h, if_neg h]
theorem go_noEx : Go (noEx m) st Q ↔ Go m st Q := by
  unfold Go noEx
  constructor
  · rintro ⟨a, s, e, q⟩
    cases h : m st with
    | ok b s' => rw [h] at e; cases e; exact ⟨_, _, rfl, q⟩
    | ex c x s => rw [h] at e; cases e
    | no => rw [h] at e; cases e
  · rintro ⟨a, s, e, q⟩
    exact ⟨a, s, by rw [e], q⟩
theorem go_of {a : α} {s : Sto} (h : m st = .ok a s) : Go m st Q ↔ Q a s := ⟨fun ⟨_, _, e, q⟩ => by rw [h] at e; cases e; exact q, fun q => ⟨_, _, h, q⟩⟩
end
section
variable {st : Sto}
theorem go_getV {ρ : Env} {i : Nat} {v : Val} {Q : Val → Sto → Prop} (h : ρ[i]? = some (some v)) : Go (getV ρ i) st Q ↔ Q v st := by
  unfold getV
  rw [h]; exact go_pure
theorem go_lookM {x : D} {Q : D → Sto → Prop} : Go (lookM (.d x)) st Q ↔ Q x st := ⟨fun ⟨_, _, e, q⟩ => by cases e; exact q, fun q => ⟨_, _, rfl, q⟩⟩
theorem go_lookS {ns : List Int} {Q : D → Sto → Prop} : Go (lookM (.s ns)) st Q ↔ Q (.list (ns.map .int)) st := ⟨fun ⟨_, _, e, q⟩ => by cases e; exact q, fun q => ⟨_, _, rfl, q⟩⟩
theorem go_lookTM {x : D} {Q : D → Sto → Prop} : Go (lookTM (.d x)) st Q ↔ Q x st := ⟨fun ⟨_, _, e, q⟩ => by cases e; exact q, fun q => ⟨_, _, rfl, q⟩⟩
theorem go_lookR {n : Nat} {c : Cell} {Q : D → Sto → Prop} (h : st[n]? = some c) : Go (lookM (.r n)) st Q ↔ Q (.list c.xs) st := by
  have e : lookM (.r n) st = .ok (.list c.xs) st := by
    have l : look st (.r n) = some (.list c.xs) := by
      show (st[n]?).map (fun c => PyData.list c.xs) = _
      rw [h]; rfl
    unfold lookM
    rw [l]
  exact go_of e
theorem go_moveM {x : D} {Q : D → Sto → Prop} : Go (moveM (.d x)) st Q ↔ Q x st := go_pure
theorem go_truB {b : Bool} {Q : Bool → Sto → Prop} : Go (truM (.d (.bool b))) st Q ↔ Q b st := by
  unfold truM
  rw [go_bind, go_lookM, go_ofO]
  simp [truD]
theorem go_noneM {Q : Bool → Sto → Prop} : Go (truM (.d .none)) st Q ↔ Q false st := by
  unfold truM
  rw [go_bind, go_lookM, go_ofO]
  simp [truD]
theorem go_fin {c : Bool} {b : Nat} {x : D} {Q : Val → Sto → Prop} : Go (fin c b (.d x)) st Q ↔ Q (.d x) (st.take b) := ⟨fun ⟨_, _, e, q⟩ => by cases e; exact q, fun q => ⟨_, _, rfl, q⟩⟩
theorem go_freeze {n : Nat} {c : Cell} {Q : List D → Sto → Prop} (h : st[n]? = some c) : Go (freezeM n) st Q ↔ Q c.xs (freezeAt st n) := by
  have e : freezeM n st = .ok c.xs (freezeAt st n) := by
    unfold freezeM
    rw [h]
  exact go_of e
theorem go_items {v : Val} {xs : List D} {Q : List D → Sto → Prop} (h : itemsOf v = pure xs) : Go (itemsOf v) st Q ↔ Q xs st := by rw [h]; exact go_pure
/-- a call -/
theorem go_call {p : Pr} {n i : Nat} {vs : List Val} {fi : FnI} {Q : Val → Sto → Prop} (h : p.fns[i]? = some fi) (hl : vs.length = fi.arity) :
    Go (callN p (n + 1) i vs) st Q ↔ Go (exSs (callN p n) p.glb fi.body (startE fi.slots vs)) st fun fl s => match fl with
      | .ret v => Go (fin fi.cell st.length v) s Q
      | .nx _ => Go (fin fi.cell st.length (.d .none)) s Q
      | _ => False := by
  have e1 : callN p (n + 1) i vs st = runF (callN p n) p.glb fi vs st := by
    conv => lhs; unfold callN
    rw [h]
    simp only [if_pos hl]
  have e2 : runF (callN p n) p.glb fi vs st = (exSs (callN p n) p.glb fi.body (startE fi.slots vs) >>= fun q => match q with
        | .ret v => fin fi.cell st.length v
        | .nx _ => fin fi.cell st.length (.d .none)
        | _ => RL.no : M Val) st := by
    unfold runF
    rfl
  have e3 : Go (callN p (n + 1) i vs) st Q ↔ Go (exSs (callN p n) p.glb fi.body (startE fi.slots vs) >>= fun q => match q with
        | .ret v => fin fi.cell st.length v
        | .nx _ => fin fi.cell st.length (.d .none)
        | _ => RL.no : M Val) st Q := by
    unfold Go
    rw [e1, e2]
  rw [e3, go_bind]
  constructor
  · rintro ⟨fl, s, e, q⟩
    refine ⟨fl, s, e, ?_⟩
    cases fl with
    | nx ρ => exact q
    | ret v => exact q
    | brk ρ => exact go_no.mp q
    | ct ρ => exact go_no.mp q
  · rintro ⟨fl, s, e, q⟩
    refine ⟨fl, s, e, ?_⟩
    cases fl with
    | nx ρ => exact q
    | ret v => exact q
    | brk ρ => exact q.elim
    | ct ρ => exact q.elim
/-- a statement and the rest -/
theorem go_cons {Φ : Nat → List Val → M Val} {G : List D} {a : Sm} {as : Sms} {ρ : Env} {Q : Flow → Sto → Prop} :
    Go (exSs Φ G (.cons a as) ρ) st Q ↔ Go (exS Φ G a ρ) st fun fl s => match fl with
      | .nx ρ1 => Go (exSs Φ G as ρ1) s Q
      | f => Q f s := by
  have e : exSs Φ G (.cons a as) ρ = (exS Φ G a ρ >>= fun q => match q with | .nx ρ1 => exSs Φ G as ρ1 | f => pure f) := by
    conv => lhs; unfold exSs
    all_goals rfl
  rw [e, go_bind]
  constructor
  · rintro ⟨fl, s, e, q⟩
    refine ⟨fl, s, e, ?_⟩
    cases fl with
    | nx ρ => exact q
    | _ => exact go_pure.mp q
  · rintro ⟨fl, s, e, q⟩
    refine ⟨fl, s, e, ?_⟩
    cases fl with
    | nx ρ => exact q
    | _ => exact go_pure.mpr q
theorem go_nil {Φ : Nat → List Val → M Val} {G : List D} {ρ : Env} {Q : Flow → Sto → Prop} : Go (exSs Φ G .nil ρ) st Q ↔ Q (.nx ρ) st := by
  have e : exSs Φ G .nil ρ = pure (.nx ρ) := by unfold exSs; rfl
  rw [e]; exact go_pure
/-! loops -/
theorem go_forL {asg : Val → Env → M Env} {body : Env → M Flow} {Q : Flow → Sto → Prop} (I : List D → Env → Sto → Prop)
    (hs : ∀ x r ρ s, I (x :: r) ρ s → Go (asg (.d x) ρ) s fun ρ1 s1 => Go (body ρ1) s1 fun fl s2 => match fl with
      | .nx ρ2 => I r ρ2 s2
      | .ct ρ2 => I r ρ2 s2
      | .brk ρ2 => Q (.nx ρ2) s2
      | .ret v => Q (.ret v) s2) (hd : ∀ ρ s, I [] ρ s → Q (.nx ρ) s) : ∀ (xs : List D) (ρ : Env) (s : Sto), I xs ρ s → Go (forL asg body xs ρ) s Q
  | [], ρ, s, h => go_pure.mpr (hd ρ s h)
  | x :: xs, ρ, s, h => by
    unfold forL
    refine go_bind.mpr ((hs x xs ρ s h).imp fun ρ1 s1 h1 => go_bind.mpr (h1.imp fun fl s2 h2 => ?_))
    cases fl with
    | nx ρ2 => exact go_forL I hs hd xs ρ2 s2 h2
    | ct ρ2 => exact go_forL I hs hd xs ρ2 s2 h2
    | brk ρ2 => exact go_pure.mpr h2
    | ret v => exact go_pure.mpr h2
theorem go_whileL {c : Env → M Bool} {body : Env → M Flow} {Q : Flow → Sto → Prop} (I : Nat → Env → Sto → Prop)
    (hs : ∀ k ρ s, I k ρ s → Go (c ρ) s fun b s1 => if b = true then Go (body ρ) s1 fun fl s2 => match fl with
      | .nx ρ2 => ∃ k', k' < k ∧ I k' ρ2 s2
      | .ct ρ2 => ∃ k', k' < k ∧ I k' ρ2 s2
      | .brk ρ2 => Q (.nx ρ2) s2
      | .ret v => Q (.ret v) s2 else Q (.nx ρ) s1) : ∀ (n k : Nat) (ρ : Env) (s : Sto), k < n → I k ρ s → Go (whileL c body n ρ) s Q
  | 0, k, ρ, s, hk, h => absurd hk (Nat.not_lt_zero _)
  | n + 1, k, ρ, s, hk, h => by
    unfold whileL
    refine go_bind.mpr ((hs k ρ s h).imp fun b s1 h1 => ?_)
    cases b with
    | false => exact go_pure.mpr h1
    | true =>
      refine go_bind.mpr (Go.imp h1 fun fl s2 h2 => ?_)
      cases fl with
      | nx ρ2 => obtain ⟨k', hk', h2⟩ := h2; exact go_whileL I hs n k' ρ2 s2 (by omega) h2
      | ct ρ2 => obtain ⟨k', hk', h2⟩ := h2; exact go_whileL I hs n k' ρ2 s2 (by omega) h2
      | brk ρ2 => exact go_pure.mpr h2
      | ret v => exact go_pure.mpr h2
/-- a comprehension: I holds of what is left, what is done, the store -/
theorem go_compL {f : D → M (List D)} {Q : List D → Sto → Prop} (I : List D → List D → Sto → Prop) (hs : ∀ x r acc s, I (x :: r) acc s → Go (f x) s fun ys s1 => I r (acc ++ ys) s1) :
    ∀ (xs acc : List D) (s : Sto), I xs acc s → (∀ zs s, I [] (acc ++ zs) s → Q zs s) → Go (compL f xs) s Q
  | [], acc, s, h, hd => go_pure.mpr (hd [] s (by simpa using h))
  | x :: xs, acc, s, h, hd => by
    unfold compL
    refine go_bind.mpr ((hs x xs acc s h).imp fun ys s1 h1 => go_bind.mpr (go_compL I hs xs (acc ++ ys) s1 h1 fun zs s2 h2 => go_pure.mpr (hd _ _ (by simpa using h2))))
/-- one that leaves the store -/
theorem compL_pure {f : D → M (List D)} {g : D → List D} : ∀ {xs : List D}, (∀ x ∈ xs, f x st = .ok (g x) st) → compL f xs st = .ok (xs.flatMap g) st
  | [], _ => rfl
  | x :: xs, h => by
    have e1 := h x List.mem_cons_self
    have e2 := compL_pure (xs := xs) fun y hy => h y (List.mem_cons_of_mem _ hy)
    have q : Go (compL f (x :: xs)) st fun a s => a = (x :: xs).flatMap g ∧ s = st := by
      unfold compL
      rw [go_bind, go_of e1, go_bind, go_of e2, go_pure]
      exact ⟨rfl, rfl⟩
    obtain ⟨a, s, h1, h2, h3⟩ := q
    subst h2 h3
    exact h1
theorem ok_of {α : Type} {m : M α} {a : α} {s : Sto} (h : Go m st fun x t => x = a ∧ t = s) : m st = .ok a s := by
  obtain ⟨x, t, e, rfl, rfl⟩ := h
  exact e
end
end RL

set_option Elab.async false
set_option linter.all false
set_option maxRecDepth 100000
set_option maxHeartbeats 4000000
namespace RL
open PySem PySem.Spec PyProof.Rows L2
/-! ### operations, told at once -/
section
variable {i j k : Int} {a b c : D} {xs ys : List D} {l : List D}
theorem o_add : opB .add (.int i) (.int j) = some (.int (i + j)) := rfl
theorem o_sub : opB .sub (.int i) (.int j) = some (.int (i - j)) := rfl
theorem o_mulr (h1 : -18446744073709551616 < j) (h2 : j < 18446744073709551616) : opB .mul (.int i) (.int j) = some (.int (i * j)) := if_pos (.inr ⟨by omega, by omega⟩)
theorem o_mull (h1 : -18446744073709551616 < i) (h2 : i < 18446744073709551616) : opB .mul (.int i) (.int j) = some (.int (i * j)) := if_pos (.inl ⟨by omega, by omega⟩)
theorem o_fdiv (h1 : 0 < j) (h2 : j < 1073741824) : opB .fdiv (.int i) (.int j) = some (.int (i / j)) := if_pos ⟨h1, h2⟩
theorem o_mod (h1 : 0 < j) : opB .mod (.int i) (.int j) = some (.int (i % j)) := if_pos h1
theorem o_addL (h : xs.length + ys.length ≤ sizeLine) : opB .add (.list xs) (.list ys) = some (.list (xs ++ ys)) := if_pos h
theorem o_addT (h : xs.length + ys.length ≤ sizeLine) : opB .add (.tuple xs) (.tuple ys) = some (.tuple (xs ++ ys)) := if_pos h
theorem divmod_ok (h1 : 0 < j) (h2 : j < 1073741824) : divmodD (.int i) (.int j) = some (.tuple [.int (i / j), .int (i % j)]) := if_pos ⟨h1, h2⟩
theorem at_n {n : Nat} (h : n < l.length) : atI l (n : Int) = some l[n] := by
  unfold atI ixN
  rw [if_pos (by omega), if_pos (by omega)]
  simp [h]
theorem at_0 : atI (a :: l) 0 = some a := at_n (n := 0) (by simp)
theorem at_1 : atI (a :: b :: l) 1 = some b := at_n (n := 1) (by simp)
theorem at_2 : atI (a :: b :: c :: l) 2 = some c := at_n (n := 2) (by simp)
theorem at_i {k : Int} (h0 : 0 ≤ k) (h : k < l.length) : ∃ x, atI l k = some x ∧ x ∈ l := by
  obtain ⟨n, rfl⟩ := Int.eq_ofNat_of_zero_le h0
  exact ⟨_, at_n (by omega), List.getElem_mem _⟩
theorem eqB {b c : Bool} : PyData.eqv (.bool b) (.bool c) = (b == c) := by simp [PyData.eqv]
theorem eqI : PyData.eqv (.int i) (.int j) = decide (i = j) := by
  unfold PyData.eqv
  exact (decide_eq_decide.mpr Iff.rfl)
theorem c_eqI : opC .eq (.int i) (.int j) = some (decide (i = j)) := by simp [opC, eqD, sameKind, eqI]
theorem c_neI : opC .ne (.int i) (.int j) = some (!decide (i = j)) := by simp [opC, eqD, sameKind, eqI]
theorem c_eqB {b c : Bool} : opC .eq (.bool b) (.bool c) = some (b == c) := by simp [opC, eqD, sameKind, eqB]
theorem c_neB {b c : Bool} : opC .ne (.bool b) (.bool c) = some (!(b == c)) := by simp [opC, eqD, sameKind, eqB]
theorem c_ltI : opC .lt (.int i) (.int j) = some (decide (i < j)) := rfl
theorem c_leI : opC .le (.int i) (.int j) = some (decide (i ≤ j)) := rfl
theorem c_gtI : opC .gt (.int i) (.int j) = some (decide (j < i)) := rfl
theorem c_geI : opC .ge (.int i) (.int j) = some (decide (j ≤ i)) := rfl
theorem c_isN : opC .is a .none = some (isNone a) := by cases a <;> rfl
theorem c_isnN : opC .isnot a .none = some (!isNone a) := by cases a <;> rfl
theorem c_isB {b : Bool} : opC .is a (.bool b) = some (isB b a) := by cases a <;> rfl
theorem c_isnB {b : Bool} : opC .isnot a (.bool b) = some (!isB b a) := by cases a <;> rfl
theorem intsD_map (ns : List Int) : intsD (ns.map .int) = some ns := by
  induction ns with
  | nil => rfl
  | cons n ns ih => rw [List.map_cons]; unfold intsD; rw [ih]; rfl
theorem boolsD_map (ns : List Bool) : boolsD (ns.map .bool) = some ns := by
  induction ns with
  | nil => rfl
  | cons n ns ih => rw [List.map_cons]; unfold boolsD; rw [ih]; rfl
theorem sum_ints (ns : List Int) : sumD (.list (ns.map .int)) = some (.int ns.sum) := by
  simp only [sumD, intsD_map]; rfl
theorem all_bools (ns : List Bool) : allD (.list (ns.map .bool)) = some (.bool (ns.all id)) := by
  simp only [allD, boolsD_map]; rfl
theorem any_bools (ns : List Bool) : anyD (.list (ns.map .bool)) = some (.bool (ns.any id)) := by
  simp only [anyD, boolsD_map]; rfl
theorem max_ints (n : Int) (ns : List Int) : max1D (.list ((n :: ns).map .int)) = some (.int (maxI n ns)) := by
  simp only [max1D, intsD_map]; rfl
theorem maxI_geS : ∀ (a : Int) (l : List Int), a ≤ maxI a l
  | a, [] => Int.le_refl _
  | a, b :: r => by
    unfold maxI
    have := maxI_geS (if b > a then b else a) r
    by_cases h : b > a
    · rw [if_pos h] at this ⊢; omega
    · rw [if_neg h] at this ⊢; omega
theorem maxI_or : ∀ (a : Int) (l : List Int), maxI a l = a ∨ maxI a l ∈ l
  | a, [] => .inl rfl
  | a, b :: r => by
    unfold maxI
    rcases maxI_or (if b > a then b else a) r with h | h
    · rw [h]
      split
      · exact .inr List.mem_cons_self
      · exact .inl rfl
    · exact .inr (List.mem_cons_of_mem _ h)
theorem maxI_leS : ∀ (a : Int) (l : List Int), ∀ x ∈ l, x ≤ maxI a l
  | a, b :: r, x, h => by
    unfold maxI
    rcases List.mem_cons.mp h with e | h
    · subst e
      have := maxI_geS (if x > a then x else a) r
      by_cases h : x > a
      · rw [if_pos h] at this ⊢; omega
      · rw [if_neg h] at this ⊢; omega
    · exact maxI_leS _ r x h
end
/-- a data list told by a function -/
theorem flatMap_one {α β : Type} (l : List α) (g : α → β) : (l.flatMap fun x => [g x]) = l.map g := by
  induction l with
  | nil => rfl
  | cons a l ih => rw [List.flatMap_cons, ih]; rfl
end RL

set_option Elab.async false
set_option linter.all false
set_option maxRecDepth 100000
set_option maxHeartbeats 4000000
namespace RL
open PySem PySem.Spec PyProof.Rows L2
/-! ### the language read from outside -/
section
variable {Φ : Nat → List Val → M Val} {G : List D} {ρ : Env} {st : Sto} {Q : Val → Sto → Prop} {QB : Bool → Sto → Prop} {QL : List Val → Sto → Prop} {QD : List D → Sto → Prop} {QE : Env → Sto → Prop} {QF : RL.Flow → Sto → Prop} {a b c e : Ex} {as bs : Exs}
theorem g_non : Go ((ev Φ G .non).val ρ) st Q ↔ Q (.d .none) st := by simp only [ev, Sd.of, go_pure]
theorem g_bl {x : Bool} : Go ((ev Φ G (.bl x)).val ρ) st Q ↔ Q (.d (.bool x)) st := by simp only [ev, Sd.of, go_pure]
theorem g_int {x : Int} : Go ((ev Φ G (.int x)).val ρ) st Q ↔ Q (.d (.int x)) st := by simp only [ev, Sd.of, go_pure]
theorem g_str {x : Str} : Go ((ev Φ G (.str x)).val ρ) st Q ↔ Q (.d (.str x)) st := by simp only [ev, Sd.of, go_pure]
theorem g_v {i : Nat} : Go ((ev Φ G (.v i)).val ρ) st Q ↔ Go (getV ρ i) st Q := by simp only [ev, Sd.of]
theorem g_g {i : Nat} : Go ((ev Φ G (.g i)).val ρ) st Q ↔ Go (gK G i) st Q := by simp only [ev, Sd.of]
theorem g_get0 {v : Val} : Go (getV (some v :: ρ) 0) st Q ↔ Q v st := go_getV rfl
theorem g_gets {x : Option Val} {i : Nat} : Go (getV (x :: ρ) (i + 1)) st Q ↔ Go (getV ρ i) st Q := by
  have : getV (x :: ρ) (i + 1) = getV ρ i := by unfold getV; rfl
  rw [this]
theorem g_neg : Go ((ev Φ G (.neg a)).val ρ) st Q ↔ Go ((ev Φ G a).val ρ) st fun v s => Go (lookM v) s fun x s => Go (negK x) s Q := by simp only [ev, Sd.of, go_bind]
theorem g_bin {o : BOp} : Go ((ev Φ G (.bin o a b)).val ρ) st Q ↔ Go ((ev Φ G a).val ρ) st fun v s => Go ((ev Φ G b).val ρ) s fun w s => Go (lookTM v) s fun x s => Go (lookTM w) s fun y s => ∃ z, opB o x y = some z ∧ Q (.d z) s := by simp only [ev, Sd.of, go_bind, go_ofO, go_pure]
theorem g_cmp {o : COp} : Go ((ev Φ G (.cmp o a b)).val ρ) st Q ↔ Go ((ev Φ G a).val ρ) st fun v s => Go ((ev Φ G b).val ρ) s fun w s => Go (lookM v) s fun x s => Go (lookM w) s fun y s => ∃ z, opC o x y = some z ∧ Q (.d (.bool z)) s := by simp only [ev, Sd.of, go_bind, go_ofO, go_pure]
theorem g_cmp2 {o p : COp} : Go ((ev Φ G (.cmp2 o p a b c)).val ρ) st Q ↔ Go ((ev Φ G a).val ρ) st fun v s => Go ((ev Φ G b).val ρ) s fun w s => Go (lookM v) s fun x s => Go (lookM w) s fun y s => ∃ z, opC o x y = some z ∧
    if z = true then Go ((ev Φ G c).val ρ) s fun u s => Go (lookM w) s fun y s => Go (lookM u) s fun z s => ∃ r, opC p y z = some r ∧ Q (.d (.bool r)) s else Q (.d (.bool false)) s := by simp only [ev, Sd.of, go_bind, go_ofO, go_ite, go_pure]
theorem g_and : Go ((ev Φ G (.and a b)).val ρ) st Q ↔ Go ((ev Φ G a).val ρ) st fun v s => Go (truM v) s fun z s => if z = true then Go ((ev Φ G b).val ρ) s Q else Q v s := by simp only [ev, go_bind, go_ite, go_pure]
theorem g_or : Go ((ev Φ G (.or a b)).val ρ) st Q ↔ Go ((ev Φ G a).val ρ) st fun v s => Go (truM v) s fun z s => if z = true then Q v s else Go ((ev Φ G b).val ρ) s Q := by simp only [ev, go_bind, go_ite, go_pure]
theorem g_not : Go ((ev Φ G (.not a)).val ρ) st Q ↔ Go ((ev Φ G a).val ρ) st fun v s => Go (truM v) s fun z s => Q (.d (.bool !z)) s := by simp only [ev, go_bind, go_pure]
theorem g_ite : Go ((ev Φ G (.ite c a b)).val ρ) st Q ↔ Go ((ev Φ G c).tst ρ) st fun z s => if z = true then Go ((ev Φ G a).val ρ) s Q else Go ((ev Φ G b).val ρ) s Q := by simp only [ev, go_bind, go_ite]
theorem g_call {f : Nat} : Go ((ev Φ G (.call f as)).val ρ) st Q ↔ Go ((evs Φ G as).vals ρ) st fun vs s => Go (Φ f vs) s Q := by simp only [ev, Sd.of, go_bind]
theorem g_callK {f : Nat} {pm : List Nat} : Go ((ev Φ G (.callK f as bs pm)).val ρ) st Q ↔ Go ((evs Φ G as).vals ρ) st fun vs s => Go ((evs Φ G bs).vals ρ) s fun ws s => ∃ us, kargs as.len bs.len vs ws pm = some us ∧ Go (Φ f us) s Q := by simp only [ev, Sd.of, go_bind, go_ofO]
theorem g_bi {f : Bi} : Go ((ev Φ G (.bi f as)).val ρ) st Q ↔ Go ((evs Φ G as).vals ρ) st fun vs s => Go (looksM vs) s fun xs s => ∃ z, biD f xs = some z ∧ Q (.d z) s := by simp only [ev, Sd.of, go_bind, go_ofO, go_pure]
theorem g_listC : Go ((ev Φ G (.listC a)).val ρ) st Q ↔ Go ((ev Φ G a).val ρ) st fun v s => Go (lookM v) s fun x s => Go (listK x) s Q := by simp only [ev, Sd.of, go_bind]
theorem g_rgT : Go ((ev Φ G (.rgT a)).val ρ) st Q ↔ Go ((ev Φ G a).val ρ) st fun v s => Go (lookM v) s fun x s => Go (rgTK x) s Q := by simp only [ev, Sd.of, go_bind]
theorem g_rgL {z : Bool} : Go ((ev Φ G (.rgL z a)).val ρ) st Q ↔ Go ((ev Φ G a).val ρ) st fun v s => Go (lookM v) s fun x s => Go (rgLK z x) s Q := by simp only [ev, Sd.of, go_bind]
theorem g_isi {t : Ty} : Go ((ev Φ G (.isi a t)).val ρ) st Q ↔ Go ((ev Φ G a).val ρ) st fun v s => Go (lookM v) s fun x s => Q (.d (.bool (tyB t x))) s := by simp only [ev, Sd.of, go_bind, go_pure]
theorem g_isiT {ts : List Ty} : Go ((ev Φ G (.isiT a ts)).val ρ) st Q ↔ Go ((ev Φ G a).val ρ) st fun v s => Go (lookM v) s fun x s => Q (.d (.bool (ts.any fun t => tyB t x))) s := by simp only [ev, Sd.of, go_bind, go_pure]
theorem g_tup : Go ((ev Φ G (.tup as)).val ρ) st Q ↔ Go ((evs Φ G as).vals ρ) st fun vs s => Go (movesM vs) s fun xs s => Go (tupK xs) s Q := by simp only [ev, Sd.of, go_bind]
theorem g_lst {z : Bool} : Go ((ev Φ G (.lst z as)).val ρ) st Q ↔ Go ((evs Φ G as).vals ρ) st fun vs s => Go (movesM vs) s fun xs s => Go (lstK z xs) s Q := by simp only [ev, Sd.of, go_bind]
theorem g_ix : Go ((ev Φ G (.ix a b)).val ρ) st Q ↔ Go ((ev Φ G a).val ρ) st fun v s => Go ((ev Φ G b).val ρ) s fun w s => Go (lookM v) s fun x s => Go (lookM w) s fun y s => Go (ixK x y) s Q := by simp only [ev, Sd.of, go_bind]
theorem g_sl : Go ((ev Φ G (.sl a as bs)).val ρ) st Q ↔ Go ((ev Φ G a).val ρ) st fun v s => Go ((evs Φ G as).vals ρ) s fun l s => Go (partM l) s fun l s => Go ((evs Φ G bs).vals ρ) s fun h s => Go (partM h) s fun h s => Go (lookM v) s fun x s => ∃ z, slD x l h = some z ∧ Q (.d z) s := by simp only [ev, Sd.of, go_bind, go_ofO, go_pure]
theorem g_rev : Go ((ev Φ G (.rev a)).val ρ) st Q ↔ Go ((ev Φ G a).val ρ) st fun v s => Go (lookM v) s fun x s => Go (revK x) s Q := by simp only [ev, Sd.of, go_bind]
theorem g_app : Go ((ev Φ G (.app a b)).val ρ) st Q ↔ Go ((ev Φ G a).val ρ) st fun v s => Go (asCell v) s fun n s => Go ((ev Φ G b).val ρ) s fun w s => Go (moveM w) s fun x s => Go (appM n x) s Q := by simp only [ev, Sd.of, go_bind]
theorem g_upper : Go ((ev Φ G (.upper a)).val ρ) st Q ↔ Go ((ev Φ G a).val ρ) st fun v s => Go (lookM v) s fun x s => Go (upperK x) s Q := by simp only [ev, Sd.of, go_bind]
theorem g_comp {z : Bool} {t : Tg} {it : RL.It} {own : List Nat} : Go ((ev Φ G (.comp z e t it as own)).val ρ) st Q ↔ Go (evI Φ G it ρ) st fun xs s => Go (compL (compF (evG Φ G t) (evs Φ G as).tsts (ev Φ G e).val ρ own) xs) s fun ys s => Go (mkL z ys) s Q := by simp only [ev, Sd.of, go_bind, go_noEx]
theorem g_comp2 {z : Bool} {t t2 : Tg} {it it2 : RL.It} {own own2 : List Nat} : Go ((ev Φ G (.comp2 z e t it as t2 it2 bs own own2)).val ρ) st Q ↔ Go (evI Φ G it ρ) st fun xs s => Go (compL (comp2F (evG Φ G t) (evs Φ G as).tsts (evI Φ G it2) (fun ρ1 => compF (evG Φ G t2) (evs Φ G bs).tsts (ev Φ G e).val ρ1 own2) ρ own) xs) s fun ys s => Go (lstK z ys) s Q := by simp only [ev, Sd.of, go_bind, go_noEx]
/-! tests -/
theorem t_and : Go ((ev Φ G (.and a b)).tst ρ) st QB ↔ Go ((ev Φ G a).tst ρ) st fun z s => if z = true then Go ((ev Φ G b).tst ρ) s QB else QB false s := by simp only [ev, go_bind, go_ite, go_pure]
theorem t_or : Go ((ev Φ G (.or a b)).tst ρ) st QB ↔ Go ((ev Φ G a).tst ρ) st fun z s => if z = true then QB true s else Go ((ev Φ G b).tst ρ) s QB := by simp only [ev, go_bind, go_ite, go_pure]
theorem t_not : Go ((ev Φ G (.not a)).tst ρ) st QB ↔ Go ((ev Φ G a).tst ρ) st fun z s => QB (!z) s := by simp only [ev, go_bind, go_pure]
theorem t_ite : Go ((ev Φ G (.ite c a b)).tst ρ) st QB ↔ Go ((ev Φ G c).tst ρ) st fun z s => if z = true then Go ((ev Φ G a).tst ρ) s QB else Go ((ev Φ G b).tst ρ) s QB := by simp only [ev, go_bind, go_ite]
theorem t_v {i : Nat} : Go ((ev Φ G (.v i)).tst ρ) st QB ↔ Go ((ev Φ G (.v i)).val ρ) st fun v s => Go (truM v) s QB := by simp only [ev, Sd.of, go_bind]
theorem t_bl {x : Bool} : Go ((ev Φ G (.bl x)).tst ρ) st QB ↔ QB x st := by simp only [ev, Sd.of, go_bind, go_pure, go_truB]
theorem t_cmp {o : COp} : Go ((ev Φ G (.cmp o a b)).tst ρ) st QB ↔ Go ((ev Φ G (.cmp o a b)).val ρ) st fun v s => Go (truM v) s QB := by simp only [ev, Sd.of, go_bind]
theorem t_cmp2 {o p : COp} : Go ((ev Φ G (.cmp2 o p a b c)).tst ρ) st QB ↔ Go ((ev Φ G (.cmp2 o p a b c)).val ρ) st fun v s => Go (truM v) s QB := by simp only [ev, Sd.of, go_bind]
theorem t_call {f : Nat} : Go ((ev Φ G (.call f as)).tst ρ) st QB ↔ Go ((ev Φ G (.call f as)).val ρ) st fun v s => Go (truM v) s QB := by simp only [ev, Sd.of, go_bind]
theorem t_callK {f : Nat} {pm : List Nat} : Go ((ev Φ G (.callK f as bs pm)).tst ρ) st QB ↔ Go ((ev Φ G (.callK f as bs pm)).val ρ) st fun v s => Go (truM v) s QB := by simp only [ev, Sd.of, go_bind]
theorem t_bi {f : Bi} : Go ((ev Φ G (.bi f as)).tst ρ) st QB ↔ Go ((ev Φ G (.bi f as)).val ρ) st fun v s => Go (truM v) s QB := by simp only [ev, Sd.of, go_bind]
theorem t_isi {t : Ty} : Go ((ev Φ G (.isi a t)).tst ρ) st QB ↔ Go ((ev Φ G (.isi a t)).val ρ) st fun v s => Go (truM v) s QB := by simp only [ev, Sd.of, go_bind]
theorem t_isiT {t : List Ty} : Go ((ev Φ G (.isiT a t)).tst ρ) st QB ↔ Go ((ev Φ G (.isiT a t)).val ρ) st fun v s => Go (truM v) s QB := by simp only [ev, Sd.of, go_bind]
theorem t_ix : Go ((ev Φ G (.ix a b)).tst ρ) st QB ↔ Go ((ev Φ G (.ix a b)).val ρ) st fun v s => Go (truM v) s QB := by simp only [ev, Sd.of, go_bind]
/-! lists of them -/
theorem l_nil : Go ((evs Φ G .nil).vals ρ) st QL ↔ QL [] st := by simp only [evs, go_pure]
theorem l_cons : Go ((evs Φ G (.cons a as)).vals ρ) st QL ↔ Go ((ev Φ G a).val ρ) st fun v s => Go ((evs Φ G as).vals ρ) s fun vs s => QL (v :: vs) s := by simp only [evs, go_bind, go_pure]
theorem lt_nil : Go ((evs Φ G .nil).tsts ρ) st QB ↔ QB true st := by simp only [evs, go_pure]
theorem lt_cons : Go ((evs Φ G (.cons a as)).tsts ρ) st QB ↔ Go ((ev Φ G a).tst ρ) st fun z s => if z = true then Go ((evs Φ G as).tsts ρ) s QB else QB false s := by simp only [evs, go_bind, go_ite, go_pure]
theorem looks_nil : Go (looksM []) st QD ↔ QD [] st := by simp only [looksM, go_pure]
theorem looks_cons {v : Val} {vs : List Val} : Go (looksM (v :: vs)) st QD ↔ Go (lookM v) st fun x s => Go (looksM vs) s fun xs s => QD (x :: xs) s := by simp only [looksM, go_bind, go_pure]
theorem moves_nil : Go (movesM []) st QD ↔ QD [] st := by simp only [movesM, go_pure]
theorem moves_cons {v : Val} {vs : List Val} : Go (movesM (v :: vs)) st QD ↔ Go (moveM v) st fun x s => Go (movesM vs) s fun xs s => QD (x :: xs) s := by simp only [movesM, go_bind, go_pure]
/-! what is walked -/
theorem i_seq : Go (evI Φ G (.seq e) ρ) st QD ↔ Go ((ev Φ G e).val ρ) st fun v s => Go (itemsOf v) s QD := by simp only [evI, go_bind]
theorem i_rng1 : Go (evI Φ G (.rng1 a) ρ) st QD ↔ Go ((ev Φ G a).val ρ) st fun v s => Go (lookM v) s fun x s => Go (rng1K x) s QD := by simp only [evI, go_bind]
theorem i_rng2 : Go (evI Φ G (.rng2 a b) ρ) st QD ↔ Go ((ev Φ G a).val ρ) st fun v s => Go ((ev Φ G b).val ρ) s fun w s => Go (lookM v) s fun x s => Go (lookM w) s fun y s => Go (rng2K x y) s QD := by simp only [evI, go_bind]
theorem i_enum : Go (evI Φ G (.enum e) ρ) st QD ↔ Go ((ev Φ G e).val ρ) st fun v s => Go (listOf v) s fun xs s => QD (enumD xs) s := by simp only [evI, go_bind, go_pure]
theorem i_zip : Go (evI Φ G (.zip a b) ρ) st QD ↔ Go ((ev Φ G a).val ρ) st fun v s => Go ((ev Φ G b).val ρ) s fun w s => Go (seqsOf v w) s fun q s => QD (zipD q.1 q.2) s := by simp only [evI, go_bind, go_pure]
theorem it_list {xs : List D} : Go (itemsOf (.d (.list xs))) st QD ↔ QD xs st := go_pure
theorem it_tuple {xs : List D} : Go (itemsOf (.d (.tuple xs))) st QD ↔ QD xs st := go_pure
theorem it_s {xs : List Int} : Go (itemsOf (.s xs)) st QD ↔ QD (xs.map .int) st := go_pure
theorem it_r {n : Nat} : Go (itemsOf (.r n)) st QD ↔ Go (freezeM n) st QD := Iff.rfl
theorem rng1_ok {j : Int} (h : rgOk 0 j) : Go (rng1K (.int j)) st QD ↔ QD (rgD 0 j) st := by
  have e : rng1K (.int j) = pure (rgD 0 j) := if_pos h
  rw [e]; exact go_pure
theorem rng2_ok {i j : Int} (h : rgOk i j) : Go (rng2K (.int i) (.int j)) st QD ↔ QD (rgD i j) st := by
  have e : rng2K (.int i) (.int j) = pure (rgD i j) := if_pos h
  rw [e]; exact go_pure
/-! targets -/
theorem gg_n {i : Nat} {v : Val} : Go (evG Φ G (.n i) v ρ) st QE ↔ QE (ρ.set i (some v)) st := by simp only [evG, go_pure]
theorem gg_t {ts : Tgs} {xs : List D} : Go (evG Φ G (.t ts) (.d (.tuple xs)) ρ) st QE ↔ if xs.length = ts.len then Go (evGs Φ G ts xs ρ) st QE else False := by simp only [evG, go_ite, go_no]
theorem gg_ix {o i : Ex} {v : Val} : Go (evG Φ G (.ix o i) v ρ) st QE ↔ Go ((ev Φ G o).val ρ) st fun a s => Go ((ev Φ G i).val ρ) s fun k s => Go (moveM v) s fun x s => Go (lookM k) s fun k s => Go (setIxM a k x) s fun _ s => QE ρ s := by simp only [evG, go_bind, go_pure]
theorem gs_nil : Go (evGs Φ G .nil [] ρ) st QE ↔ QE ρ st := by simp only [evGs, go_pure]
theorem gs_cons {t : Tg} {ts : Tgs} {x : D} {xs : List D} : Go (evGs Φ G (.cons t ts) (x :: xs) ρ) st QE ↔ Go (evG Φ G t (.d x) ρ) st fun ρ s => Go (evGs Φ G ts xs ρ) s QE := by simp only [evGs, go_bind]
theorem g_tupK {xs : List D} (h : xs.length ≤ sizeLine) : Go (tupK xs) st Q ↔ Q (.d (.tuple xs)) st := by
  unfold tupK
  rw [if_pos h]; exact go_pure
theorem g_lstK {xs : List D} (h : xs.length ≤ sizeLine) : Go (lstK false xs) st Q ↔ Q (.d (.list xs)) st := by
  unfold lstK
  rw [if_pos h]; exact go_pure
theorem g_lstC {xs : List D} (h : xs.length ≤ sizeLine) : Go (lstK true xs) st Q ↔ Q (.r st.length) (st ++ [⟨true, xs⟩]) := by
  unfold lstK
  rw [if_pos h]
  exact go_of rfl
theorem g_mkL {xs : List D} : Go (mkL false xs) st Q ↔ Q (.d (.list xs)) st := go_pure
theorem g_mkC {xs : List D} : Go (mkL true xs) st Q ↔ Q (.r st.length) (st ++ [⟨true, xs⟩]) := go_of rfl
theorem g_ixT {xs : List D} {k : Int} : Go (ixK (.tuple xs) (.int k)) st Q ↔ ∃ x, atI xs k = some x ∧ Q (.d x) st := by
  simp only [ixK, ixD, go_bind, go_ofO, go_pure]
theorem g_ixL {xs : List D} {k : Int} : Go (ixK (.list xs) (.int k)) st Q ↔ ∃ x, atI xs k = some x ∧ Q (.d x) st := by
  simp only [ixK, ixD, go_bind, go_ofO, go_pure]
theorem g_negK {k : Int} : Go (negK (.int k)) st Q ↔ Q (.d (.int (-k))) st := go_pure
theorem g_asCell {n : Nat} {Q : Nat → Sto → Prop} : Go (asCell (.r n)) st Q ↔ Q n st := go_pure
theorem p_nil {Q : Option Int → Sto → Prop} : Go (partM []) st Q ↔ Q none st := go_pure
theorem p_one {i : Int} {Q : Option Int → Sto → Prop} : Go (partM [.d (.int i)]) st Q ↔ Q (some i) st := go_pure
/-! statements -/
theorem s_pass : Go (exS Φ G .pass ρ) st QF ↔ QF (.nx ρ) st := by simp only [exS, go_pure]
theorem s_brk : Go (exS Φ G .brk ρ) st QF ↔ QF (.brk ρ) st := by simp only [exS, go_pure]
theorem s_cont : Go (exS Φ G .cont ρ) st QF ↔ QF (.ct ρ) st := by simp only [exS, go_pure]
theorem s_never : Go (exS Φ G .never ρ) st QF ↔ False := by simp only [exS, go_no]
theorem s_expr : Go (exS Φ G (.expr e) ρ) st QF ↔ Go ((ev Φ G e).val ρ) st fun _ s => QF (.nx ρ) s := by simp only [exS, go_bind, go_pure]
theorem s_ret : Go (exS Φ G (.ret e) ρ) st QF ↔ Go ((ev Φ G e).val ρ) st fun v s => QF (.ret v) s := by simp only [exS, go_bind, go_pure]
theorem s_retN : Go (exS Φ G .retN ρ) st QF ↔ QF (.ret (.d .none)) st := by simp only [exS, go_pure]
theorem s_asg {t : Tg} : Go (exS Φ G (.asg t e) ρ) st QF ↔ Go ((ev Φ G e).val ρ) st fun v s => Go (evG Φ G t v ρ) s fun ρ1 s => QF (.nx ρ1) s := by simp only [exS, go_bind, go_pure]
theorem s_par3 {i j l : Nat} : Go (exS Φ G (.par3 i j l a b c) ρ) st QF ↔ Go ((ev Φ G a).val ρ) st fun v s => Go ((ev Φ G b).val ρ) s fun w s => Go ((ev Φ G c).val ρ) s fun u s => QF (.nx (((ρ.set i (some v)).set j (some w)).set l (some u))) s := by simp only [exS, go_bind, go_pure]
theorem s_par {i j : Nat} : Go (exS Φ G (.par i j a b) ρ) st QF ↔ Go ((ev Φ G a).val ρ) st fun v s => Go ((ev Φ G b).val ρ) s fun w s => QF (.nx ((ρ.set i (some v)).set j (some w))) s := by simp only [exS, go_bind, go_pure]
theorem s_aug {i : Nat} {o : BOp} : Go (exS Φ G (.aug i o e) ρ) st QF ↔ Go (getV ρ i) st fun v s => Go ((ev Φ G e).val ρ) s fun w s => Go (lookTM v) s fun x s => Go (lookTM w) s fun y s => Go (augK o x y) s fun z s => QF (.nx (ρ.set i (some z))) s := by simp only [exS, go_bind, go_pure]
theorem s_iff {x y : Sms} : Go (exS Φ G (.iff c x y) ρ) st QF ↔ Go ((ev Φ G c).tst ρ) st fun z s => if z = true then Go (exSs Φ G x ρ) s QF else Go (exSs Φ G y ρ) s QF := by simp only [exS, go_bind, go_ite]
theorem s_for {t : Tg} {it : RL.It} {x : Sms} : Go (exS Φ G (.for_ t it x) ρ) st QF ↔ Go (evI Φ G it ρ) st fun xs s => Go (forL (evG Φ G t) (exSs Φ G x) xs ρ) s QF := by simp only [exS, go_bind]
theorem s_while {n : Nat} {x : Sms} : Go (exS Φ G (.while_ n c x) ρ) st QF ↔ Go (whileL (ev Φ G c).tst (exSs Φ G x) n ρ) st QF := by simp only [exS]
/-- one item of a comprehension -/
theorem g_compF {g : Val → Env → M Env} {tt : Env → M Bool} {te : Env → M Val} {own : List Nat} {x : D} : Go (compF g tt te ρ own x) st QD ↔ Go (g (.d x) (wipeE ρ own)) st fun ρ1 s => Go (tt ρ1) s fun z s => if z = true then Go (te ρ1) s fun v s => Go (moveM v) s fun y s => QD [y] s else QD [] s := by
  simp only [compF, go_bind, go_ite, go_pure]
theorem g_comp2F {g : Val → Env → M Env} {tt : Env → M Bool} {mi : Env → M (List D)} {f2 : Env → D → M (List D)} {own : List Nat} {x : D} : Go (comp2F g tt mi f2 ρ own x) st QD ↔ Go (g (.d x) (wipeE ρ own)) st fun ρ1 s => Go (tt ρ1) s fun z s => if z = true then Go (mi ρ1) s fun xs s => Go (compL (f2 ρ1) xs) s QD else QD [] s := by
  simp only [comp2F, go_bind, go_ite, go_pure]
end
end RL

set_option Elab.async false
set_option linter.all false
set_option maxRecDepth 100000
set_option maxHeartbeats 4000000
namespace RL
open PySem PySem.Spec PyProof.Rows L2
theorem ex_of {α : Type} {o : Option α} {x : α} {P : α → Prop} (h : o = some x) : (∃ z, o = some z ∧ P z) ↔ P x := by
  subst h
  exact ⟨fun ⟨_, e, q⟩ => by cases e; exact q, fun q => ⟨_, rfl, q⟩⟩
section
variable {i j k : Int} {a b c x y : D} {xs ys l : List D} {P : D → Prop} {PB : Bool → Prop} {z w : Bool}
theorem b_add : (∃ z, opB .add (.int i) (.int j) = some z ∧ P z) ↔ P (.int (i + j)) := ex_of rfl
theorem b_sub : (∃ z, opB .sub (.int i) (.int j) = some z ∧ P z) ↔ P (.int (i - j)) := ex_of rfl
theorem b_mulr (h1 : -18446744073709551616 < j) (h2 : j < 18446744073709551616) : (∃ z, opB .mul (.int i) (.int j) = some z ∧ P z) ↔ P (.int (i * j)) := ex_of (o_mulr h1 h2)
theorem b_mull (h1 : -18446744073709551616 < i) (h2 : i < 18446744073709551616) : (∃ z, opB .mul (.int i) (.int j) = some z ∧ P z) ↔ P (.int (i * j)) := ex_of (o_mull h1 h2)
theorem b_fdiv (h1 : 0 < j) (h2 : j < 1073741824) : (∃ z, opB .fdiv (.int i) (.int j) = some z ∧ P z) ↔ P (.int (i / j)) := ex_of (o_fdiv h1 h2)
theorem b_mod (h1 : 0 < j) : (∃ z, opB .mod (.int i) (.int j) = some z ∧ P z) ↔ P (.int (i % j)) := ex_of (o_mod h1)
theorem b_addL (h : xs.length + ys.length ≤ sizeLine) : (∃ z, opB .add (.list xs) (.list ys) = some z ∧ P z) ↔ P (.list (xs ++ ys)) := ex_of (o_addL h)
theorem b_addT (h : xs.length + ys.length ≤ sizeLine) : (∃ z, opB .add (.tuple xs) (.tuple ys) = some z ∧ P z) ↔ P (.tuple (xs ++ ys)) := ex_of (o_addT h)
theorem q_eqI : (∃ z, opC .eq (.int i) (.int j) = some z ∧ PB z) ↔ PB (decide (i = j)) := ex_of c_eqI
theorem q_neI : (∃ z, opC .ne (.int i) (.int j) = some z ∧ PB z) ↔ PB (!decide (i = j)) := ex_of c_neI
theorem q_eqB : (∃ u, opC .eq (.bool z) (.bool w) = some u ∧ PB u) ↔ PB (z == w) := ex_of c_eqB
theorem q_neB : (∃ u, opC .ne (.bool z) (.bool w) = some u ∧ PB u) ↔ PB (!(z == w)) := ex_of c_neB
theorem q_lt : (∃ z, opC .lt (.int i) (.int j) = some z ∧ PB z) ↔ PB (decide (i < j)) := ex_of rfl
theorem q_le : (∃ z, opC .le (.int i) (.int j) = some z ∧ PB z) ↔ PB (decide (i ≤ j)) := ex_of rfl
theorem q_gt : (∃ z, opC .gt (.int i) (.int j) = some z ∧ PB z) ↔ PB (decide (j < i)) := ex_of rfl
theorem q_ge : (∃ z, opC .ge (.int i) (.int j) = some z ∧ PB z) ↔ PB (decide (j ≤ i)) := ex_of rfl
theorem q_isN : (∃ z, opC .is a .none = some z ∧ PB z) ↔ PB (isNone a) := ex_of c_isN
theorem q_isnN : (∃ z, opC .isnot a .none = some z ∧ PB z) ↔ PB (!isNone a) := ex_of c_isnN
theorem q_isB {b : Bool} : (∃ z, opC .is a (.bool b) = some z ∧ PB z) ↔ PB (isB b a) := ex_of c_isB
theorem q_isnB {b : Bool} : (∃ z, opC .isnot a (.bool b) = some z ∧ PB z) ↔ PB (!isB b a) := ex_of c_isnB
theorem isB_b {b c : Bool} : isB b (.bool c) = (c == b) := rfl
theorem depthAll_map {α : Type} {f : α → D} (h : ∀ x, PyData.depth (f x) = 0) : ∀ l : List α, PyData.depthAll (l.map f) = 0
  | [] => by simp [PyData.depthAll]
  | x :: l => by rw [List.map_cons]; unfold PyData.depthAll; rw [h x, depthAll_map h l]; rfl
theorem canAll_map {α : Type} {f : α → D} (h : ∀ x, PyData.canLay0 (f x) = true) : ∀ l : List α, PyData.canLayAll0 (l.map f) = true
  | [] => by simp [PyData.canLayAll0]
  | x :: l => by rw [List.map_cons]; unfold PyData.canLayAll0; rw [h x, canAll_map h l]; rfl
theorem shaped_map {α : Type} {f : α → D} (h1 : ∀ x, PyData.depth (f x) = 0) (h2 : ∀ x, PyData.canLay0 (f x) = true) (l : List α) : SeqAt.shaped (.list (l.map f)) = true := by
  unfold SeqAt.shaped PyData.canLay0 PyData.depth
  rw [canAll_map h2, depthAll_map h1]; rfl
theorem shaped_ints (ns : List Int) : SeqAt.shaped (.list (ns.map .int)) = true := shaped_map (fun _ => by simp [PyData.depth]) (fun _ => by simp [PyData.canLay0]) ns
theorem shaped_bools (ns : List Bool) : SeqAt.shaped (.list (ns.map .bool)) = true := shaped_map (fun _ => by simp [PyData.depth]) (fun _ => by simp [PyData.canLay0]) ns
theorem shaped_nil : SeqAt.shaped (.list []) = true := shaped_ints []
theorem eqv_nil : PyData.eqv (.list xs) (.list []) = xs.isEmpty := by
  unfold PyData.eqv
  cases xs <;> simp [PyData.eqvAll]
theorem q_neL0 (h : SeqAt.shaped (.list xs) = true) : (∃ z, opC .ne (.list xs) (.list []) = some z ∧ PB z) ↔ PB (!xs.isEmpty) := by
  refine ex_of ?_
  show (eqD (.list xs) (.list [])).map (!·) = _
  unfold eqD
  rw [if_neg (by simp [sameKind]), if_pos ⟨h, shaped_nil⟩, eqv_nil]; rfl
theorem q_eqL0 (h : SeqAt.shaped (.list xs) = true) : (∃ z, opC .eq (.list xs) (.list []) = some z ∧ PB z) ↔ PB xs.isEmpty := by
  refine ex_of ?_
  show eqD (.list xs) (.list []) = _
  unfold eqD
  rw [if_neg (by simp [sameKind]), if_pos ⟨h, shaped_nil⟩, eqv_nil]
theorem inB {bs : List Bool} : inD (.bool w) (.list (bs.map .bool)) = some (bs.contains w) := by
  show (if SeqAt.shaped (.bool w) = true ∧ SeqAt.shaped (.list (bs.map .bool)) = true then some ((bs.map PyData.bool).any fun z => PyData.eqv z (.bool w)) else none) = _
  rw [if_pos ⟨by simp [SeqAt.shaped, PyData.canLay0, PyData.depth], shaped_bools bs⟩]
  congr 1
  induction bs with
  | nil => rfl
  | cons b bs ih =>
    rw [List.map_cons, List.any_cons, ih, List.contains_cons, eqB]
    cases b <;> cases w <;> rfl
theorem q_inB {bs : List Bool} : (∃ z, opC .in_ (.bool w) (.list (bs.map .bool)) = some z ∧ PB z) ↔ PB (bs.contains w) := ex_of inB
theorem q_notinB {bs : List Bool} : (∃ z, opC .notin (.bool w) (.list (bs.map .bool)) = some z ∧ PB z) ↔ PB (!bs.contains w) := ex_of (by show (inD _ _).map (!·) = _; rw [inB]; rfl)
theorem f_lenT : (∃ z, biD .len [.tuple xs] = some z ∧ P z) ↔ P (.int xs.length) := ex_of rfl
theorem f_lenL : (∃ z, biD .len [.list xs] = some z ∧ P z) ↔ P (.int xs.length) := ex_of rfl
theorem f_int : (∃ z, biD .int [.int i] = some z ∧ P z) ↔ P (.int i) := ex_of rfl
theorem f_abs : (∃ z, biD .abs [.int i] = some z ∧ P z) ↔ P (.int (if i < 0 then -i else i)) := ex_of rfl
theorem f_max2 : (∃ z, biD .max2 [.int i, .int j] = some z ∧ P z) ↔ P (.int (if j > i then j else i)) := ex_of rfl
theorem f_min2 : (∃ z, biD .min2 [.int i, .int j] = some z ∧ P z) ↔ P (.int (if j < i then j else i)) := ex_of rfl
theorem f_tupleL : (∃ z, biD .tuple [.list xs] = some z ∧ P z) ↔ P (.tuple xs) := ex_of rfl
theorem f_tupleT : (∃ z, biD .tuple [.tuple xs] = some z ∧ P z) ↔ P (.tuple xs) := ex_of rfl
theorem f_listL : (∃ z, biD .list [.list xs] = some z ∧ P z) ↔ P (.list xs) := ex_of rfl
theorem f_listT : (∃ z, biD .list [.tuple xs] = some z ∧ P z) ↔ P (.list xs) := ex_of rfl
theorem f_divmod (h1 : 0 < j) (h2 : j < 1073741824) : (∃ z, biD .divmod [.int i, .int j] = some z ∧ P z) ↔ P (.tuple [.int (i / j), .int (i % j)]) := ex_of (divmod_ok h1 h2)
theorem f_all {bs : List Bool} : (∃ z, biD .all [.list (bs.map .bool)] = some z ∧ P z) ↔ P (.bool (bs.all id)) := ex_of (all_bools bs)
theorem f_any {bs : List Bool} : (∃ z, biD .any [.list (bs.map .bool)] = some z ∧ P z) ↔ P (.bool (bs.any id)) := ex_of (any_bools bs)
theorem f_sum {ns : List Int} : (∃ z, biD .sum [.list (ns.map .int)] = some z ∧ P z) ↔ P (.int ns.sum) := ex_of (sum_ints ns)
theorem f_max1 {n : Int} {ns : List Int} : (∃ z, biD .max1 [.list (.int n :: ns.map .int)] = some z ∧ P z) ↔ P (.int (maxI n ns)) := ex_of (max_ints n ns)
theorem a_0 : (∃ x, atI (a :: l) 0 = some x ∧ P x) ↔ P a := ex_of at_0
theorem a_1 : (∃ x, atI (a :: b :: l) 1 = some x ∧ P x) ↔ P b := ex_of at_1
theorem a_2 : (∃ x, atI (a :: b :: c :: l) 2 = some x ∧ P x) ↔ P c := ex_of at_2
end
/-! loops over what is told -/
theorem compL_map {α : Type} {F : D → M (List D)} {f : α → D} {g : α → List D} {st : Sto} : ∀ {l : List α}, (∀ p ∈ l, F (f p) st = .ok (g p) st) → compL F (l.map f) st = .ok (l.flatMap g) st
  | [], _ => rfl
  | x :: xs, h => by
    have e1 := h x List.mem_cons_self
    have e2 := compL_map (l := xs) (F := F) (f := f) (g := g) fun y hy => h y (List.mem_cons_of_mem _ hy)
    refine ok_of ?_
    rw [List.map_cons]
    unfold compL
    rw [go_bind, go_of e1, go_bind, go_of e2, go_pure]
    exact ⟨rfl, rfl⟩
theorem w_nil {asg : Val → Env → M Env} {body : Env → M RL.Flow} {Q : RL.Flow → Sto → Prop} {ρ : Env} {st : Sto} : Go (forL asg body [] ρ) st Q ↔ Q (.nx ρ) st := go_pure
theorem w_cons {asg : Val → Env → M Env} {body : Env → M RL.Flow} {Q : RL.Flow → Sto → Prop} {ρ : Env} {st : Sto} {x : D} {xs : List D} : Go (forL asg body (x :: xs) ρ) st Q ↔ Go (asg (.d x) ρ) st fun ρ1 s1 => Go (body ρ1) s1 fun fl s2 => match fl with
      | .nx ρ2 => Go (forL asg body xs ρ2) s2 Q
      | .ct ρ2 => Go (forL asg body xs ρ2) s2 Q
      | .brk ρ2 => Q (.nx ρ2) s2
      | .ret v => Q (.ret v) s2 := by
  unfold Go
  constructor
  · rintro ⟨a, s, e, q⟩
    unfold forL at e
    obtain ⟨ρ1, s1, e1, e2⟩ := bnd_ok e
    obtain ⟨fl, s2, e3, e4⟩ := bnd_ok e2
    refine ⟨ρ1, s1, e1, fl, s2, e3, ?_⟩
    cases fl with
    | nx ρ2 => exact ⟨a, s, e4, q⟩
    | ct ρ2 => exact ⟨a, s, e4, q⟩
    | brk ρ2 => obtain ⟨rfl, rfl⟩ := ret_ok e4; exact q
    | ret v => obtain ⟨rfl, rfl⟩ := ret_ok e4; exact q
  · rintro ⟨ρ1, s1, e1, fl, s2, e3, h⟩
    have key : Go (forL asg body (x :: xs) ρ) st Q := by
      unfold forL
      refine go_bind.mpr ⟨ρ1, s1, e1, go_bind.mpr ⟨fl, s2, e3, ?_⟩⟩
      cases fl with
      | nx ρ2 => exact h
      | ct ρ2 => exact h
      | brk ρ2 => exact go_pure.mpr h
      | ret v => exact go_pure.mpr h
    exact key
end RL

set_option Elab.async false
set_option linter.all false
set_option maxRecDepth 100000
set_option maxHeartbeats 4000000
namespace RL
open PySem PySem.Spec PyProof.Rows L2
/-! ### a cell of three ints; a cell at the end -/
def U (st : Sto) (c : Nat) (x y z : Int) : Sto := st.set c ⟨true, [.int x, .int y, .int z]⟩
section
variable {st : Sto} {c : Nat} {x y z i x' y' z' : Int}
theorem U_len : (U st c x y z).length = st.length := by unfold U; simp
theorem U_take : (U st c x y z).take (U st c x' y' z').length = U st c x y z := by
  rw [U_len, ← U_len (st := st) (c := c) (x := x) (y := y) (z := z), List.take_length]
theorem U_get (h : c < st.length) : (U st c x y z)[c]? = some ⟨true, [.int x, .int y, .int z]⟩ := by unfold U; simp [h]
theorem u_look (h : c < st.length) {Q : D → Sto → Prop} : Go (lookM (.r c)) (U st c x y z) Q ↔ Q (.list [.int x, .int y, .int z]) (U st c x y z) := go_lookR (U_get h)
theorem u_set {k : Int} {j : Nat} {a : D} (h : c < st.length) {Q : Unit → Sto → Prop} (hj : ixN 3 k = some j) : Go (setIxM (.r c) (.int k) a) (U st c x y z) Q ↔ Q () (st.set c ⟨true, [PyData.int x, .int y, .int z].set j a⟩) := by
  refine go_of ?_
  show storeM c _ _ = _
  unfold storeM
  rw [U_get h]
  show (match (match ixN 3 k with | some j => some ([PyData.int x, .int y, .int z].set j a) | none => none) with | some ys => R.ok () ((U st c x y z).set c ⟨true, ys⟩) | none => .no) = _
  rw [hj]
  unfold U
  simp
theorem u_set0 (h : c < st.length) {Q : Unit → Sto → Prop} : Go (setIxM (.r c) (.int 0) (.int i)) (U st c x y z) Q ↔ Q () (U st c i y z) := u_set h (j := 0) rfl
theorem u_set1 (h : c < st.length) {Q : Unit → Sto → Prop} : Go (setIxM (.r c) (.int 1) (.int i)) (U st c x y z) Q ↔ Q () (U st c x i z) := u_set h (j := 1) rfl
theorem u_set2 (h : c < st.length) {Q : Unit → Sto → Prop} : Go (setIxM (.r c) (.int 2) (.int i)) (U st c x y z) Q ↔ Q () (U st c x y i) := u_set h (j := 2) rfl
theorem go_appEnd {xs : List D} {a : D} {Q : Val → Sto → Prop} (h : xs.length < sizeLine) : Go (appM st.length a) (st ++ [⟨true, xs⟩]) Q ↔ Q (.d .none) (st ++ [⟨true, xs ++ [a]⟩]) := by
  unfold appM
  rw [go_bind]
  have e : storeM st.length (fun xs => if xs.length < sizeLine then some (xs ++ [a]) else none) (st ++ [⟨true, xs⟩]) = .ok () (st ++ [⟨true, xs ++ [a]⟩]) := by
    unfold storeM
    rw [show (st ++ [(⟨true, xs⟩ : Cell)])[st.length]? = some ⟨true, xs⟩ by simp]
    simp only [if_pos h]
    simp
  rw [go_of e, go_pure]
theorem go_finR {C : Cell} {Q : Val → Sto → Prop} : Go (fin false st.length (.r st.length)) (st ++ [C]) Q ↔ Q (.d (.list C.xs)) st := by
  refine go_of ?_
  show (if st.length < st.length then _ else match (st ++ [C])[st.length]? with | some c => _ | none => _) = _
  rw [if_neg (Nat.lt_irrefl _), show (st ++ [C])[st.length]? = some C by simp]
  simp
theorem go_finC {C : Cell} {Q : Val → Sto → Prop} : Go (fin true st.length (.r st.length)) (st ++ [C]) Q ↔ Q (.r st.length) (st ++ [C]) := by
  refine go_of ?_
  show (if st.length < st.length then _ else match (st ++ [C])[st.length]? with | some c => _ | none => _) = _
  rw [if_neg (Nat.lt_irrefl _), show (st ++ [C])[st.length]? = some C by simp]
  simp
theorem go_lookEnd {C : Cell} {Q : D → Sto → Prop} : Go (lookM (.r st.length)) (st ++ [C]) Q ↔ Q (.list C.xs) (st ++ [C]) := go_lookR (by simp)
theorem U_new {C : Cell} (h : C = ⟨true, [.int x, .int y, .int z]⟩) : st ++ [C] = U (st ++ [C]) st.length x y z := by
  subst h
  unfold U
  simp
end
/-! what a range holds -/
theorem rgD_mem {a b : Int} {x : D} (h : x ∈ rgD a b) : ∃ i, x = .int i ∧ a ≤ i ∧ i < b := by
  unfold rgD at h
  obtain ⟨k, hk, rfl⟩ := List.mem_map.mp h
  have := List.mem_range.mp hk
  exact ⟨_, rfl, by omega, by omega⟩
theorem rgD_len (a b : Int) : (rgD a b).length = (b - a).toNat := by unfold rgD; simp
theorem rgOk_by {a b : Int} (h1 : -1000000000 ≤ a) (h2 : a ≤ 1000000000) (h3 : -1000000000 ≤ b) (h4 : b ≤ 1000000000) (h5 : b - a ≤ 10000000) : rgOk a b := by
  refine ⟨by omega, by omega, by omega, by omega, ?_⟩
  have : sizeLine = 16777216 := by decide
  omega
/-! two cells at the end -/
def T2 (st : Sto) (xs ys : List D) : Sto := st ++ [⟨true, xs⟩, ⟨true, ys⟩]
section
variable {st : Sto} {xs ys : List D} {a : D}
theorem T2_1 : (T2 st xs ys)[st.length]? = some ⟨true, xs⟩ := by unfold T2; simp
theorem T2_2 : (T2 st xs ys)[st.length + 1]? = some ⟨true, ys⟩ := by
  unfold T2
  rw [List.getElem?_append_right (by omega), show st.length + 1 - st.length = 1 by omega]; rfl
theorem T2_take : (T2 st xs ys).take st.length = st := by unfold T2; simp
theorem T2_new : (st ++ [(⟨true, xs⟩ : Cell)]) ++ [⟨true, ys⟩] = T2 st xs ys := by unfold T2; simp
theorem T2_look1 {Q : D → Sto → Prop} : Go (lookM (.r st.length)) (T2 st xs ys) Q ↔ Q (.list xs) (T2 st xs ys) := go_lookR T2_1
theorem T2_look2 {Q : D → Sto → Prop} : Go (lookM (.r (st.length + 1))) (T2 st xs ys) Q ↔ Q (.list ys) (T2 st xs ys) := go_lookR T2_2
theorem T2_app1 {Q : Val → Sto → Prop} (h : xs.length < sizeLine) : Go (appM st.length a) (T2 st xs ys) Q ↔ Q (.d .none) (T2 st (xs ++ [a]) ys) := by
  unfold appM
  rw [go_bind]
  have e : storeM st.length (fun xs => if xs.length < sizeLine then some (xs ++ [a]) else none) (T2 st xs ys) = .ok () (T2 st (xs ++ [a]) ys) := by
    unfold storeM
    rw [T2_1]
    simp only [if_pos h]
    unfold T2
    simp
  rw [go_of e, go_pure]
theorem T2_app2 {Q : Val → Sto → Prop} (h : ys.length < sizeLine) : Go (appM (st.length + 1) a) (T2 st xs ys) Q ↔ Q (.d .none) (T2 st xs (ys ++ [a])) := by
  unfold appM
  rw [go_bind]
  have e : storeM (st.length + 1) (fun xs => if xs.length < sizeLine then some (xs ++ [a]) else none) (T2 st xs ys) = .ok () (T2 st xs (ys ++ [a])) := by
    unfold storeM
    rw [T2_2]
    simp only [if_pos h]
    unfold T2
    rw [List.set_append_right _ _ (by omega), show st.length + 1 - st.length = 1 by omega]; rfl
  rw [go_of e, go_pure]
end
theorem rgD_nil {a b : Int} (h : b ≤ a) : rgD a b = [] := by
  unfold rgD
  rw [show (b - a).toNat = 0 by omega]; rfl
theorem rgD_cons {a b : Int} (h : a < b) : rgD a b = .int a :: rgD (a + 1) b := by
  unfold rgD
  rw [show (b - a).toNat = (b - (a + 1)).toNat + 1 by omega, List.range_succ_eq_map, List.map_cons, List.map_map]
  congr 1
  · simp
  · apply List.map_congr_left
    intro i _
    show PyData.int (a + ((i + 1 : Nat) : Int)) = .int (a + 1 + i)
    congr 1
    omega
theorem rgD_inv {a b : Int} {x : D} {r : List D} (h : x :: r = rgD a b) : a < b ∧ x = .int a ∧ r = rgD (a + 1) b := by
  by_cases q : a < b
  · rw [rgD_cons q] at h
    injection h with h1 h2
    exact ⟨q, h1, h2⟩
  · rw [rgD_nil (by omega)] at h; cases h
theorem rgD_end {a b : Int} (h : [] = rgD a b) : b ≤ a := by
  by_cases q : a < b
  · rw [rgD_cons q] at h; cases h
  · omega
end RL

set_option Elab.async false
set_option linter.all false
set_option maxRecDepth 100000
set_option maxHeartbeats 4000000
namespace RL
open PySem PySem.Spec PyProof.Rows L2
/-! ### more rules, of use in many laws -/
section
variable {Φ : Nat → List Val → M Val} {G : List D} {ρ : Env} {st : Sto} {Q : Val → Sto → Prop} {a b e : Ex}
theorem g_rgV : Go ((ev Φ G (.rgV a b)).val ρ) st Q ↔ Go ((ev Φ G a).val ρ) st fun v s => Go ((ev Φ G b).val ρ) s fun w s => Go (lookM v) s fun x s => Go (lookM w) s fun y s => Go (rgVK x y) s Q := by simp only [ev, Sd.of, go_bind]
theorem g_rgVK {i j : Int} : Go (rgVK (.int i) (.int j)) st Q ↔ Q (.g i j) st := go_pure
theorem it_g {i j : Int} {QD : List D → Sto → Prop} : Go (itemsOf (.g i j)) st QD ↔ Go (if rgOk i j then pure (rgD i j) else RL.no) st QD := Iff.rfl
theorem it_gok {i j : Int} {QD : List D → Sto → Prop} (h : rgOk i j) : Go (itemsOf (.g i j)) st QD ↔ QD (rgD i j) st := by rw [it_g, if_pos h]; exact go_pure
theorem g_revL {xs : List D} : Go (revK (.list xs)) st Q ↔ Q (.d (.list xs.reverse)) st := go_pure
theorem g_revT {xs : List D} : Go (revK (.tuple xs)) st Q ↔ Q (.d (.tuple xs.reverse)) st := go_pure
theorem go_next {a : Sm} {as : Sms} {ρ ρ1 : Env} {Q : RL.Flow → Sto → Prop} (h : Go (exS Φ G a ρ) st fun fl s => fl = .nx ρ1 ∧ s = st) (k : Go (exSs Φ G as ρ1) st Q) : Go (exSs Φ G (.cons a as) ρ) st Q :=
  go_cons.mpr (h.imp fun fl s e => by obtain ⟨rfl, rfl⟩ := e; exact k)
theorem go_seq {a : Sm} {as : Sms} {ρ : Env} {Q : RL.Flow → Sto → Prop} (P : Env → Sto → Prop) (h : Go (exS Φ G a ρ) st fun fl s => ∃ ρ1, fl = .nx ρ1 ∧ P ρ1 s) (k : ∀ ρ1 s, P ρ1 s → Go (exSs Φ G as ρ1) s Q) : Go (exSs Φ G (.cons a as) ρ) st Q :=
  go_cons.mpr (h.imp fun fl s e => by obtain ⟨ρ1, rfl, p⟩ := e; exact k ρ1 s p)
end
section
variable {st : Sto} {c : Nat} {x y z : Int}
theorem U_app {C : Cell} (h : c < st.length) : U st c x y z ++ [C] = U (st ++ [C]) c x y z := by
  unfold U
  rw [List.set_append_left _ _ h]
theorem go_appU {xs : List D} {a : D} {Q : Val → Sto → Prop} (h : c < st.length) (hz : xs.length < sizeLine) : Go (appM st.length a) (U (st ++ [⟨true, xs⟩]) c x y z) Q ↔ Q (.d .none) (U (st ++ [⟨true, xs ++ [a]⟩]) c x y z) := by
  have := go_appEnd (st := U st c x y z) (xs := xs) (a := a) (Q := Q) hz
  rw [U_len, U_app h, U_app h] at this
  exact this
end
section
variable {Φ : Nat → List Val → M Val} {G : List D} {ρ : Env} {st : Sto} {Q : Val → Sto → Prop}
theorem g_compC {e : Ex} {t : Tg} {it : RL.It} {own : List Nat} : Go ((ev Φ G (.compC e t it own)).val ρ) st Q ↔ Go (evI Φ G it ρ) st fun xs s => Go (cellsL (cellF (evG Φ G t) (ev Φ G e).val ρ own) xs) s fun ns s => Q (.rs ns) s := by simp only [ev, Sd.of, go_bind, go_noEx, go_pure]
theorem g_compR {e src : Ex} {i : Nat} {z : Bool} {as : Exs} {own : List Nat} : Go ((ev Φ G (.compR z e i src as own)).val ρ) st Q ↔ Go ((ev Φ G src).val ρ) st fun v s => Go (asCells v) s fun ns s => Go (compL (compRF i (evs Φ G as).tsts (ev Φ G e).val ρ own) ns) s fun ys s => Go (mkL z ys) s Q := by simp only [ev, Sd.of, go_bind, go_noEx]
theorem g_asCells {ns : List Nat} {Q : List Nat → Sto → Prop} : Go (asCells (.rs ns)) st Q ↔ Q ns st := go_pure
theorem g_cells0 {f : D → M Nat} {Q : List Nat → Sto → Prop} : Go (cellsL f []) st Q ↔ Q [] st := go_pure
theorem g_cells1 {f : D → M Nat} {x : D} {xs : List D} {Q : List Nat → Sto → Prop} : Go (cellsL f (x :: xs)) st Q ↔ Go (f x) st fun n s => Go (cellsL f xs) s fun ns s => Q (n :: ns) s := by
  have e : cellsL f (x :: xs) = (do let n ← f x; let ns ← cellsL f xs; pure (n :: ns)) := rfl
  rw [e]; simp only [go_bind, go_pure]
theorem g_compL0 {α : Type} {f : α → M (List D)} {Q : List D → Sto → Prop} : Go (compL f []) st Q ↔ Q [] st := go_pure
theorem g_compL1 {α : Type} {f : α → M (List D)} {x : α} {xs : List α} {Q : List D → Sto → Prop} : Go (compL f (x :: xs)) st Q ↔ Go (f x) st fun r s => Go (compL f xs) s fun rs s => Q (r ++ rs) s := by
  have e : compL f (x :: xs) = (do let r ← f x; let rs ← compL f xs; pure (r ++ rs)) := rfl
  rw [e]; simp only [go_bind, go_pure]
theorem g_cellF {g : Val → Env → M Env} {te : Env → M Val} {own : List Nat} {x : D} {Q : Nat → Sto → Prop} : Go (cellF g te ρ own x) st Q ↔ Go (g (.d x) (wipeE ρ own)) st fun ρ1 s => Go (te ρ1) s fun v s => Go (asCell v) s Q := by simp only [cellF, go_bind]
theorem g_compRF {i n : Nat} {tt : Env → M Bool} {te : Env → M Val} {own : List Nat} {Q : List D → Sto → Prop} : Go (compRF i tt te ρ own n) st Q ↔ Go (tt ((wipeE ρ own).set i (some (.r n)))) st fun z s => if z = true then Go (te ((wipeE ρ own).set i (some (.r n)))) s fun v s => Go (moveM v) s fun y s => Q [y] s else Q [] s := by simp only [compRF, go_bind, go_ite, go_pure]
end
theorem kargs1 {p : Val} : kargs 0 1 [] [p] [0] = some [p] := rfl
theorem kargs2 {p q : Val} : kargs 0 2 [] [p, q] [1, 0] = some [q, p] := rfl
theorem c_slL {xs : List D} {lo hi : Option Int} {P : D → Prop} : (∃ z, slD (.list xs) lo hi = some z ∧ P z) ↔ P (.list (cutD xs lo hi)) := ex_of rfl
theorem c_slT {xs : List D} {lo hi : Option Int} {P : D → Prop} : (∃ z, slD (.tuple xs) lo hi = some z ∧ P z) ↔ P (.tuple (cutD xs lo hi)) := ex_of rfl
theorem cut_map {α : Type} (f : α → D) (ns : List α) (lo hi : Option Int) : cutD (ns.map f) lo hi = ((ns.drop (HT.sIx ns.length 0 lo)).take (HT.sIx ns.length ns.length hi - HT.sIx ns.length 0 lo)).map f := by
  unfold cutD
  rw [List.length_map, ← List.map_drop, ← List.map_take]
theorem pow18 : opB .pow (.int 10) (.int 18) = some (.int 1000000000000000000) := by simp [opB]
theorem big (k : Nat) (h : k ≤ 1000000) : k ≤ sizeLine := Nat.le_trans h (by decide)
theorem sIx_nn {n d : Nat} {k : Int} (h : 0 ≤ k) : HT.sIx n d (some k) = min k.toNat n := by
  have e : HT.sIx n d (some k) = if k < 0 then (k + (n : Int)).toNat else min k.toNat n := rfl
  rw [e, if_neg (by omega)]
theorem sIx_0 (n d : Nat) : HT.sIx n d (some 0) = 0 := by rw [sIx_nn (by omega)]; simp
theorem g_tupS {xs : List D} {st : Sto} {Q : Val → Sto → Prop} (h : xs.length ≤ 1000000) : Go (tupK xs) st Q ↔ Q (.d (.tuple xs)) st := g_tupK (big _ h)
theorem g_lstS {xs : List D} {st : Sto} {Q : Val → Sto → Prop} (h : xs.length ≤ 1000000) : Go (lstK false xs) st Q ↔ Q (.d (.list xs)) st := g_lstK (big _ h)
theorem g_lstCS {xs : List D} {st : Sto} {Q : Val → Sto → Prop} (h : xs.length ≤ 1000000) : Go (lstK true xs) st Q ↔ Q (.r st.length) (st ++ [⟨true, xs⟩]) := g_lstC (big _ h)
theorem b_addLS {xs ys : List D} {P : D → Prop} (h : xs.length + ys.length ≤ 1000000) : (∃ z, opB .add (.list xs) (.list ys) = some z ∧ P z) ↔ P (.list (xs ++ ys)) := b_addL (big _ h)
theorem b_addTS {xs ys : List D} {P : D → Prop} (h : xs.length + ys.length ≤ 1000000) : (∃ z, opB .add (.tuple xs) (.tuple ys) = some z ∧ P z) ↔ P (.tuple (xs ++ ys)) := b_addT (big _ h)
theorem cut_take {α : Type} (f : α → D) (l : List α) {k : Int} (h : 0 ≤ k) : cutD (l.map f) none (some k) = (l.take k.toNat).map f := by
  rw [cut_map, sIx_nn h]
  have e : HT.sIx l.length 0 none = 0 := rfl
  rw [e, List.drop_zero, Nat.sub_zero, ← List.take_eq_take_min]
theorem cut_drop {α : Type} (f : α → D) (l : List α) {k : Int} (h : 0 ≤ k) : cutD (l.map f) (some k) none = (l.drop k.toNat).map f := by
  rw [cut_map, sIx_nn h]
  have e : HT.sIx l.length l.length none = l.length := rfl
  rw [e]
  congr 1
  by_cases q : k.toNat ≤ l.length
  · rw [Nat.min_eq_left q, List.take_of_length_le (by rw [List.length_drop]; omega)]
  · rw [Nat.min_eq_right (by omega), Nat.sub_self, List.take_zero, List.drop_eq_nil_of_le (by omega)]
theorem b_mulT {xs : List D} {k : Int} {P : D → Prop} (h0 : -1000 ≤ k) (h1 : k ≤ 1000) (hz : xs.length ≤ 1000) : (∃ z, opB .mul (.tuple xs) (.int k) = some z ∧ P z) ↔ P (.tuple (List.replicate k.toNat xs).flatten) := ex_of (if_pos ⟨h0, h1, hz⟩)
def okS : Nat → D → Bool
  | 0, _ => false
  | n + 1, x => match x with
    | .tuple xs => xs.all (okS n)
    | .int _ | .bool _ => true
    | _ => false
theorem zipD_self (xs : List D) : zipD xs xs = xs.map fun x => .tuple [x, x] := by
  unfold zipD
  induction xs with
  | nil => rfl
  | cons x xs ih => rw [List.zipWith_cons_cons, ih]; rfl
theorem seqs_tt {xs ys : List D} {st : Sto} {Q : List D × List D → Sto → Prop} : Go (seqsOf (.d (.tuple xs)) (.d (.tuple ys))) st Q ↔ Q (xs, ys) st := go_pure
end RL

set_option Elab.async false
set_option linter.all false
set_option maxRecDepth 100000
set_option maxHeartbeats 0
namespace RL
open PySem PySem.Spec PyProof.Rows L2
def top (i : Nat) : Stmt := PySem.Challenge.pw_holdterms_k43_whole_plans_beside_one_ano.main.body.getD i (.Pass ⟨0, 0, 0, 0⟩)
def f0 : FnI := ⟨1, 1, false,
    (.cons (.ret (.and (.isi (.v 0) .int) (.and (.not (.isi (.v 0) .bool)) (.cmp .ge (.v 0) (.int 0)))))
    .nil)⟩
def d0 : DefI := ⟨"is_number", top 6, ["value"], ["value"], f0⟩
def f1 : FnI := ⟨2, 2, false,
    (.cons (.ret (.and (.call 0 (.cons (.v 0) .nil)) (.cmp .le (.v 0) (.v 1))))
    .nil)⟩
def d1 : DefI := ⟨"is_up_to", top 7, ["value", "most"], ["value", "most"], f1⟩
def f2 : FnI := ⟨3, 3, false,
    (.cons (.ret (.and (.call 0 (.cons (.v 0) .nil)) (.cmp2 .le .le (.v 1) (.v 0) (.v 2))))
    .nil)⟩
def d2 : DefI := ⟨"is_between", top 8, ["value", "low", "high"], ["value", "low", "high"], f2⟩
def f3 : FnI := ⟨1, 1, false,
    (.cons (.ret (.call 1 (.cons (.v 0) (.cons (.g 0) .nil))))
    .nil)⟩
def d3 : DefI := ⟨"is_day", top 9, ["value"], ["value"], f3⟩
def f4 : FnI := ⟨3, 3, false,
    (.cons (.ret (.and (.isi (.v 0) .tuple) (.cmp2 .le .le (.v 1) (.bi .len (.cons (.v 0) .nil)) (.v 2))))
    .nil)⟩
def d4 : DefI := ⟨"is_tuple_up_to", top 10, ["value", "low", "high"], ["value", "low", "high"], f4⟩
def f5 : FnI := ⟨2, 2, false,
    (.cons (.ret (.call 4 (.cons (.v 0) (.cons (.v 1) (.cons (.v 1) .nil)))))
    .nil)⟩
def d5 : DefI := ⟨"is_tuple_of", top 11, ["value", "many"], ["value", "many"], f5⟩
def f6 : FnI := ⟨1, 1, false,
    (.cons (.ret (.call 5 (.cons (.v 0) (.cons (.int 2) .nil))))
    .nil)⟩
def d6 : DefI := ⟨"is_pair", top 12, ["value"], ["value"], f6⟩
def f7 : FnI := ⟨1, 1, false,
    (.cons (.ret (.and (.call 6 (.cons (.v 0) .nil)) (.and (.call 2 (.cons (.ix (.v 0) (.int 0)) (.cons (.int 1) (.cons (.g 2) .nil)))) (.call 1 (.cons (.ix (.v 0) (.int 1)) (.cons (.g 3) .nil))))))
    .nil)⟩
def d7 : DefI := ⟨"is_step_and_keep", top 17, ["value"], ["value"], f7⟩
def f8 : FnI := ⟨1, 2, false,
    (.cons (.ret (.and (.call 4 (.cons (.v 0) (.cons (.int 1) (.cons (.g 1) .nil)))) (.bi .all (.cons (.comp false (.call 7 (.cons (.v 1) .nil)) (.n 1) (.seq (.v 0)) .nil [1]) .nil))))
    .nil)⟩
def d8 : DefI := ⟨"is_plan_by", top 18, ["value", "each"], ["value"], f8⟩
def f9 : FnI := ⟨1, 1, false,
    (.cons (.ret (.and (.call 6 (.cons (.v 0) .nil)) (.and (.call 3 (.cons (.ix (.v 0) (.int 0)) .nil)) (.and (.call 3 (.cons (.ix (.v 0) (.int 1)) .nil)) (.cmp .lt (.ix (.v 0) (.int 0)) (.ix (.v 0) (.int 1)))))))
    .nil)⟩
def d9 : DefI := ⟨"is_stay_by", top 19, ["value"], ["value"], f9⟩
def f10 : FnI := ⟨1, 1, false,
    (.cons (.iff (.not (.call 8 (.cons (.v 0) .nil))) (.cons .never
    .nil) .nil)
    .nil)⟩
def d10 : DefI := ⟨"check_plan", top 20, ["plan"], ["plan"], f10⟩
def f11 : FnI := ⟨1, 1, false,
    (.cons (.iff (.not (.call 9 (.cons (.v 0) .nil))) (.cons .never
    .nil) .nil)
    .nil)⟩
def d11 : DefI := ⟨"check_stay", top 21, ["stay"], ["stay"], f11⟩
def f12 : FnI := ⟨2, 2, false,
    (.cons (.ret (.bin .mul (.bin .fdiv (.v 1) (.v 0)) (.v 0)))
    .nil)⟩
def d12 : DefI := ⟨"last_made", top 23, ["step", "day"], ["step", "day"], f12⟩
def f13 : FnI := ⟨1, 1, false,
    (.cons (.ret (.bin .sub (.ix (.v 0) (.int 1)) (.int 1)))
    .nil)⟩
def d13 : DefI := ⟨"last_day", top 24, ["stay"], ["stay"], f13⟩
def f14 : FnI := ⟨2, 5, false,
    (.cons (.asg (.t (.cons (.n 2) (.cons (.n 3) .nil))) (.v 0))
    (.cons (.asg (.n 4) (.call 12 (.cons (.v 2) (.cons (.call 13 (.cons (.v 1) .nil)) .nil))))
    (.cons (.ret (.ite (.cmp .ge (.v 4) (.ix (.v 1) (.int 0))) (.lst false (.cons (.bin .sub (.v 3) (.bin .sub (.call 13 (.cons (.v 1) .nil)) (.v 4))) .nil)) (.lst false .nil)))
    .nil)))⟩
def d14 : DefI := ⟨"tail_by_pair", top 25, ["pair", "stay", "step", "keep", "made"], ["pair", "stay"], f14⟩
def f15 : FnI := ⟨2, 4, false,
    (.cons (.ret (.bi .max1 (.cons (.bin .add (.lst false (.cons (.int 0) .nil)) (.comp2 false (.v 3) (.n 2) (.seq (.v 0)) .nil (.n 3) (.seq (.call 14 (.cons (.v 2) (.cons (.v 1) .nil)))) .nil [2, 3] [3])) .nil)))
    .nil)⟩
def d15 : DefI := ⟨"tail_by", top 26, ["plan", "stay", "pair", "tail"], ["plan", "stay"], f15⟩
def f16 : FnI := ⟨2, 4, false,
    (.cons (.par 2 3 (.v 0) (.v 1))
    (.cons (.while_ 1000000 (.cmp .gt (.v 3) (.int 0)) (.cons (.par 2 3 (.v 3) (.bin .mod (.bi .int (.cons (.v 2) .nil)) (.v 3)))
    .nil))
    (.cons (.ret (.v 2))
    .nil)))⟩
def d16 : DefI := ⟨"greatest_divisor", top 28, ["one", "other", "high", "low"], ["one", "other"], f16⟩
def f17 : FnI := ⟨2, 2, false,
    (.cons (.ret (.bin .mul (.bin .fdiv (.v 0) (.call 16 (.cons (.v 0) (.cons (.v 1) .nil)))) (.v 1)))
    .nil)⟩
def d17 : DefI := ⟨"least_multiple", top 29, ["one", "other"], ["one", "other"], f17⟩
def f18 : FnI := ⟨1, 5, false,
    (.cons (.asg (.n 1) (.int 1))
    (.cons (.for_ (.n 2) (.seq (.v 0)) (.cons (.for_ (.t (.cons (.n 3) (.cons (.n 4) .nil))) (.seq (.v 2)) (.cons (.asg (.n 1) (.call 17 (.cons (.v 1) (.cons (.v 3) .nil))))
    .nil))
    .nil))
    (.cons (.ret (.v 1))
    .nil)))⟩
def d18 : DefI := ⟨"period_of", top 30, ["plans", "found", "plan", "step", "keep"], ["plans"], f18⟩
def f19 : FnI := ⟨2, 2, false,
    (.cons (.ret (.tup (.cons (.bin .sub (.bin .add (.v 0) (.int 1)) (.v 1)) (.cons (.bin .add (.v 0) (.int 1)) .nil))))
    .nil)⟩
def d19 : DefI := ⟨"stay_of", top 31, ["last", "days"], ["last", "days"], f19⟩
def f20 : FnI := ⟨1, 4, false,
    (.cons (.asg (.n 1) (.rgV (.g 2) (.bin .add (.g 2) (.call 18 (.cons (.v 0) .nil)))))
    (.cons (.ret (.comp2 false (.call 19 (.cons (.v 2) (.cons (.v 3) .nil))) (.n 2) (.seq (.v 1)) .nil (.n 3) (.rng2 (.int 1) (.bin .add (.g 2) (.int 1))) .nil [2, 3] [3]))
    .nil))⟩
def d20 : DefI := ⟨"stays_for", top 32, ["plans", "lasts", "last", "days"], ["plans"], f20⟩
def f21 : FnI := ⟨2, 3, false,
    (.cons (.for_ (.n 2) (.seq (.call 20 (.cons (.tup (.cons (.v 0) (.cons (.v 1) .nil))) .nil))) (.cons (.iff (.cmp .gt (.call 15 (.cons (.v 0) (.cons (.v 2) .nil))) (.call 15 (.cons (.v 1) (.cons (.v 2) .nil)))) (.cons (.ret (.v 2))
    .nil) .nil)
    .nil))
    (.cons (.ret .non)
    .nil))⟩
def d21 : DefI := ⟨"longer_stay_by", top 33, ["plan", "other", "stay"], ["plan", "other"], f21⟩
def f22 : FnI := ⟨2, 2, false,
    (.cons (.ret (.cmp .is (.call 21 (.cons (.v 0) (.cons (.v 1) .nil))) .non))
    .nil)⟩
def d22 : DefI := ⟨"is_never_longer_by", top 34, ["plan", "other"], ["plan", "other"], f22⟩
def f23 : FnI := ⟨2, 2, false,
    (.cons (.ret (.and (.call 22 (.cons (.v 0) (.cons (.v 1) .nil))) (.call 22 (.cons (.v 1) (.cons (.v 0) .nil)))))
    .nil)⟩
def d23 : DefI := ⟨"are_alike_by", top 35, ["plan", "other"], ["plan", "other"], f23⟩
def f24 : FnI := ⟨2, 2, false,
    (.cons (.expr (.call 10 (.cons (.v 0) .nil)))
    (.cons (.expr (.call 11 (.cons (.v 1) .nil)))
    .nil))⟩
def d24 : DefI := ⟨"check_both", top 37, ["plan", "stay"], ["plan", "stay"], f24⟩
def f25 : FnI := ⟨2, 2, false,
    (.cons (.expr (.call 24 (.cons (.v 0) (.cons (.v 1) .nil))))
    (.cons (.ret (.call 15 (.cons (.v 0) (.cons (.v 1) .nil))))
    .nil))⟩
def d25 : DefI := ⟨"tail", top 38, ["plan", "stay"], ["plan", "stay"], f25⟩
def f26 : FnI := ⟨2, 2, false,
    (.cons (.expr (.call 10 (.cons (.v 0) .nil)))
    (.cons (.expr (.call 10 (.cons (.v 1) .nil)))
    .nil))⟩
def d26 : DefI := ⟨"check_two", top 39, ["plan", "other"], ["plan", "other"], f26⟩
def f27 : FnI := ⟨2, 2, false,
    (.cons (.expr (.call 26 (.cons (.v 0) (.cons (.v 1) .nil))))
    (.cons (.ret (.call 22 (.cons (.v 0) (.cons (.v 1) .nil))))
    .nil))⟩
def d27 : DefI := ⟨"is_never_longer", top 40, ["plan", "other"], ["plan", "other"], f27⟩
def f28 : FnI := ⟨2, 2, false,
    (.cons (.expr (.call 26 (.cons (.v 0) (.cons (.v 1) .nil))))
    (.cons (.ret (.call 21 (.cons (.v 0) (.cons (.v 1) .nil))))
    .nil))⟩
def d28 : DefI := ⟨"longer_stay", top 41, ["plan", "other"], ["plan", "other"], f28⟩
def f29 : FnI := ⟨2, 2, false,
    (.cons (.expr (.call 26 (.cons (.v 0) (.cons (.v 1) .nil))))
    (.cons (.ret (.call 23 (.cons (.v 0) (.cons (.v 1) .nil))))
    .nil))⟩
def d29 : DefI := ⟨"are_alike_plans", top 42, ["plan", "other"], ["plan", "other"], f29⟩
def f30 : FnI := ⟨2, 5, true,
    (.cons (.asg (.n 2) (.ite (.cmp .lt (.v 1) (.bi .len (.cons (.v 0) .nil))) (.bi .int (.cons (.ix (.v 0) (.v 1)) .nil)) (.bin .add (.bin .add (.bin .mul (.int 8513) (.v 1)) (.int 409)) (.bin .mod (.bi .int (.cons (.bi .sum (.cons (.sl (.v 0) .nil (.cons (.int 5) .nil)) .nil)) .nil)) (.int 999769)))))
    (.cons (.asg (.n 3) (.bin .add (.int 95003) (.bin .mul (.int 3607) (.v 1))))
    (.cons (.for_ (.n 4) (.seq (.bin .add (.sl (.v 0) .nil (.cons (.int 11) .nil)) (.lst false (.cons (.v 2) .nil)))) (.cons (.asg (.n 3) (.bin .mod (.bi .int (.cons (.bin .add (.bin .add (.bin .mul (.v 3) (.int 43591)) (.bin .mod (.bi .int (.cons (.v 4) .nil)) (.int 2147483423))) (.int 43)) .nil)) (.int 2147483423)))
    .nil))
    (.cons (.ret (.lst true (.cons (.ite (.or (.cmp .lt (.v 2) (.int 0)) (.cmp .ge (.v 2) (.bin .pow (.int 10) (.int 18)))) (.bi .abs (.cons (.v 2) .nil)) (.int 0)) (.cons (.v 3) (.cons (.int 0) .nil)))))
    .nil))))⟩
def d30 : DefI := ⟨"_law_urn", top 44, ["script", "lap", "own", "stir", "each"], ["script", "lap"], f30⟩
def f31 : FnI := ⟨2, 4, false,
    (.cons (.iff (.cmp .gt (.ix (.v 0) (.int 0)) (.int 0)) (.cons (.asg (.t (.cons (.ix (.v 0) (.int 0)) (.cons (.n 2) .nil))) (.bi .divmod (.cons (.ix (.v 0) (.int 0)) (.cons (.v 1) .nil))))
    (.cons (.ret (.v 2))
    .nil)) .nil)
    (.cons (.asg (.ix (.v 0) (.int 2)) (.bin .add (.ix (.v 0) (.int 2)) (.int 1)))
    (.cons (.asg (.n 3) (.bin .mod (.bi .int (.cons (.bin .add (.bin .add (.bin .mul (.ix (.v 0) (.int 1)) (.int 41299)) (.bin .mul (.ix (.v 0) (.int 2)) (.int 50951))) (.int 23)) .nil)) (.int 2147483423)))
    (.cons (.asg (.ix (.v 0) (.int 1)) (.bin .mod (.bi .int (.cons (.bin .add (.bin .mul (.v 3) (.bin .add (.bin .mul (.int 2) (.bin .fdiv (.v 3) (.int 37))) (.int 20011))) (.ix (.v 0) (.int 2))) .nil)) (.int 2147483423)))
    (.cons (.ret (.bin .mod (.bi .int (.cons (.bin .fdiv (.ix (.v 0) (.int 1)) (.int 103)) .nil)) (.v 1)))
    .nil)))))⟩
def d31 : DefI := ⟨"_law_nip", top 45, ["urn", "many", "found", "lap"], ["urn", "many"], f31⟩
def f32 : FnI := ⟨2, 2, false,
    (.cons (.ret (.ix (.v 1) (.call 31 (.cons (.v 0) (.cons (.bi .len (.cons (.v 1) .nil)) .nil)))))
    .nil)⟩
def d32 : DefI := ⟨"_law_any_of", top 46, ["urn", "some"], ["urn", "some"], f32⟩
def f33 : FnI := ⟨1, 1, false,
    (.cons (.ret (.and (.isi (.v 0) .int) (.not (.isi (.v 0) .bool))))
    .nil)⟩
def d33 : DefI := ⟨"_law_is_whole", top 47, ["value"], ["value"], f33⟩
def f34 : FnI := ⟨2, 2, false,
    (.cons (.ret (.and (.call 33 (.cons (.v 0) .nil)) (.cmp2 .le .le (.int 0) (.v 0) (.v 1))))
    .nil)⟩
def d34 : DefI := ⟨"_law_is_up_to", top 48, ["value", "most"], ["value", "most"], f34⟩
def f35 : FnI := ⟨2, 4, false,
    (.cons (.iff (.isiT (.v 0) [.tuple, .list]) (.cons (.iff (.or (.cmp .ne (.isi (.v 0) .tuple) (.isi (.v 1) .tuple)) (.cmp .ne (.isi (.v 0) .list) (.isi (.v 1) .list))) (.cons (.ret (.bl false))
    .nil) .nil)
    (.cons (.ret (.and (.cmp .eq (.bi .len (.cons (.v 0) .nil)) (.bi .len (.cons (.v 1) .nil))) (.cmp .notin (.bl false) (.comp false (.call 35 (.cons (.v 2) (.cons (.v 3) .nil))) (.t (.cons (.n 2) (.cons (.n 3) .nil))) (.zip (.v 0) (.v 1)) .nil [2, 3]))))
    .nil)) .nil)
    (.cons (.iff (.or (.isiT (.v 1) [.tuple, .list]) (.cmp .ne (.isi (.v 0) .bool) (.isi (.v 1) .bool))) (.cons (.ret (.bl false))
    .nil) .nil)
    (.cons (.ret (.and (.cmp .eq (.isi (.v 0) .str) (.isi (.v 1) .str)) (.cmp .eq (.v 0) (.v 1))))
    .nil)))⟩
def d35 : DefI := ⟨"_law_same", top 49, ["one", "two", "a", "b"], ["one", "two"], f35⟩
def f36 : FnI := ⟨1, 2, false,
    (.cons (.iff (.or (.not (.isi (.v 0) .tuple)) (.or (.cmp .ne (.bi .len (.cons (.v 0) .nil)) (.int 2)) (.cmp .in_ (.bl false) (.comp false (.call 34 (.cons (.v 1) (.cons (.int 99999) .nil))) (.n 1) (.seq (.v 0)) .nil [1])))) (.cons (.ret (.bl false))
    .nil) .nil)
    (.cons (.ret (.cmp .lt (.ix (.v 0) (.int 0)) (.ix (.v 0) (.int 1))))
    .nil))⟩
def d36 : DefI := ⟨"_law_is_stay", top 50, ["value", "day"], ["value"], f36⟩
def f37 : FnI := ⟨2, 6, false,
    (.cons (.asg (.n 2) (.bin .sub (.ix (.v 1) (.int 1)) (.int 1)))
    (.cons (.for_ (.t (.cons (.n 3) (.cons (.n 4) .nil))) (.seq (.v 0)) (.cons (.asg (.n 5) (.bin .sub (.bin .sub (.ix (.v 1) (.int 1)) (.int 1)) (.bin .mod (.bi .int (.cons (.bin .sub (.ix (.v 1) (.int 1)) (.int 1)) .nil)) (.v 3))))
    (.cons (.asg (.n 2) (.ite (.cmp .ge (.v 5) (.ix (.v 1) (.int 0))) (.bi .max2 (.cons (.v 2) (.cons (.bin .add (.v 5) (.v 4)) .nil))) (.v 2)))
    .nil)))
    (.cons (.ret (.v 2))
    .nil)))⟩
def d37 : DefI := ⟨"_law_trace", top 51, ["plan", "stay", "best", "step", "keep", "last"], ["plan", "stay"], f37⟩
def f38 : FnI := ⟨2, 2, false,
    (.cons (.ret (.bin .add (.bin .sub (.call 37 (.cons (.v 0) (.cons (.v 1) .nil))) (.ix (.v 1) (.int 1))) (.int 1)))
    .nil)⟩
def d38 : DefI := ⟨"_law_tail", top 52, ["plan", "stay"], ["plan", "stay"], f38⟩
def f39 : FnI := ⟨2, 10, false,
    (.cons (.asg (.n 2) (.int 1))
    (.cons (.for_ (.t (.cons (.n 3) (.cons (.n 4) .nil))) (.seq (.bin .add (.v 0) (.v 1))) (.cons (.par 5 6 (.v 2) (.v 3))
    (.cons (.while_ 1000000 (.cmp .gt (.v 6) (.int 0)) (.cons (.par 5 6 (.v 6) (.bin .mod (.bi .int (.cons (.v 5) .nil)) (.v 6)))
    .nil))
    (.cons (.asg (.n 2) (.bin .mul (.bin .fdiv (.v 2) (.v 5)) (.v 3)))
    .nil))))
    (.cons (.asg (.n 7) (.lst false .nil))
    (.cons (.for_ (.n 8) (.rng2 (.int 10) (.bin .add (.int 10) (.v 2))) (.cons (.asg (.n 7) (.bin .add (.v 7) (.comp false (.tup (.cons (.bin .sub (.bin .add (.v 8) (.int 1)) (.v 9)) (.cons (.bin .add (.v 8) (.int 1)) .nil))) (.n 9) (.rng2 (.int 1) (.int 11)) .nil [9])))
    .nil))
    (.cons (.ret (.v 7))
    .nil)))))⟩
def d39 : DefI := ⟨"_law_window", top 53, ["plan", "other", "period", "step", "keep", "one", "two", "found", "last", "length"], ["plan", "other"], f39⟩
def f40 : FnI := ⟨2, 3, false,
    (.cons (.for_ (.n 2) (.seq (.call 39 (.cons (.v 0) (.cons (.v 1) .nil)))) (.cons (.iff (.cmp .gt (.call 38 (.cons (.v 0) (.cons (.v 2) .nil))) (.call 38 (.cons (.v 1) (.cons (.v 2) .nil)))) (.cons (.ret (.v 2))
    .nil) .nil)
    .nil))
    (.cons (.ret .non)
    .nil))⟩
def d40 : DefI := ⟨"_law_longer", top 54, ["plan", "other", "stay"], ["plan", "other"], f40⟩
def f41 : FnI := ⟨3, 5, false,
    (.cons (.asg (.n 3) (.tup .nil))
    (.cons (.for_ (.n 4) (.rng1 (.bin .add (.int 1) (.call 31 (.cons (.v 0) (.cons (.int 4) .nil))))) (.cons (.asg (.n 3) (.bin .add (.v 3) (.tup (.cons (.tup (.cons (.bin .add (.int 1) (.call 31 (.cons (.v 0) (.cons (.v 1) .nil)))) (.cons (.call 32 (.cons (.v 0) (.cons (.tup (.cons (.int 0) (.cons (.call 31 (.cons (.v 0) (.cons (.bin .add (.v 2) (.int 1)) .nil))) (.cons (.call 31 (.cons (.v 0) (.cons (.int 8) .nil))) (.cons (.v 2) .nil))))) .nil))) .nil))) .nil))))
    .nil))
    (.cons (.ret (.v 3))
    .nil)))⟩
def d41 : DefI := ⟨"_law_any_plan", top 55, ["urn", "step", "keep", "some", "k"], ["urn", "step", "keep"], f41⟩
def f42 : FnI := ⟨2, 8, false,
    (.cons (.par 2 3 (.call 31 (.cons (.v 0) (.cons (.bi .len (.cons (.v 1) .nil)) .nil))) (.call 31 (.cons (.v 0) (.cons (.int 6) .nil))))
    (.cons (.asg (.t (.cons (.n 4) (.cons (.n 5) .nil))) (.ix (.v 1) (.v 2)))
    (.cons (.iff (.cmp .eq (.v 3) (.int 0)) (.cons (.ret (.rev (.v 1)))
    .nil) .nil)
    (.cons (.iff (.and (.cmp .eq (.v 3) (.int 1)) (.cmp .lt (.bi .len (.cons (.v 1) .nil)) (.int 4))) (.cons (.asg (.n 6) (.call 32 (.cons (.v 0) (.cons (.comp false (.v 7) (.n 7) (.rng2 (.int 1) (.int 11)) (.cons (.cmp .lt (.bin .mul (.v 7) (.v 4)) (.int 11)) .nil) [7]) .nil))))
    (.cons (.ret (.bin .add (.v 1) (.tup (.cons (.tup (.cons (.bin .mul (.v 6) (.v 4)) (.cons (.bi .min2 (.cons (.bi .max2 (.cons (.bin .sub (.v 5) (.call 31 (.cons (.v 0) (.cons (.int 3) .nil)))) (.cons (.int 0) .nil))) (.cons (.int 999) .nil))) .nil))) .nil))))
    .nil)) .nil)
    (.cons (.iff (.and (.cmp .eq (.v 3) (.int 2)) (.cmp .gt (.bi .len (.cons (.v 1) .nil)) (.int 1))) (.cons (.ret (.bin .add (.sl (.v 1) .nil (.cons (.v 2) .nil)) (.sl (.v 1) (.cons (.bin .add (.v 2) (.int 1)) .nil) .nil)))
    .nil) .nil)
    (.cons (.iff (.cmp .eq (.v 3) (.int 3)) (.cons (.ret (.bin .add (.bin .add (.sl (.v 1) .nil (.cons (.v 2) .nil)) (.tup (.cons (.tup (.cons (.v 4) (.cons (.bi .min2 (.cons (.bi .max2 (.cons (.bin .add (.v 5) (.call 32 (.cons (.v 0) (.cons (.tup (.cons (.int 1) (.cons (.bin .sub (.int 0) (.int 1)) (.cons (.int 3) .nil)))) .nil)))) (.cons (.int 0) .nil))) (.cons (.int 999) .nil))) .nil))) .nil))) (.sl (.v 1) (.cons (.bin .add (.v 2) (.int 1)) .nil) .nil)))
    .nil) .nil)
    (.cons (.iff (.cmp .eq (.v 3) (.int 4)) (.cons (.ret (.bin .add (.bin .add (.sl (.v 1) .nil (.cons (.v 2) .nil)) (.tup (.cons (.tup (.cons (.bin .add (.int 1) (.call 31 (.cons (.v 0) (.cons (.int 10) .nil)))) (.cons (.v 5) .nil))) .nil))) (.sl (.v 1) (.cons (.bin .add (.v 2) (.int 1)) .nil) .nil)))
    .nil) .nil)
    (.cons (.ret (.bin .add (.bin .add (.sl (.v 1) .nil (.cons (.v 2) .nil)) (.sl (.tup (.cons (.ix (.v 1) (.v 2)) (.cons (.ix (.v 1) (.v 2)) .nil))) .nil (.cons (.bin .sub (.int 5) (.bi .len (.cons (.v 1) .nil))) .nil))) (.sl (.v 1) (.cons (.bin .add (.v 2) (.int 1)) .nil) .nil)))
    .nil))))))))⟩
def d42 : DefI := ⟨"_law_near_plan", top 56, ["urn", "plan", "at", "way", "step", "keep", "times", "k"], ["urn", "plan"], f42⟩
def f43 : FnI := ⟨2, 3, false,
    (.cons (.asg (.n 2) (.call 32 (.cons (.v 0) (.cons (.tup (.cons (.int 0) (.cons (.call 31 (.cons (.v 0) (.cons (.int 30) .nil))) (.cons (.call 31 (.cons (.v 0) (.cons (.v 1) .nil))) .nil)))) .nil))))
    (.cons (.ret (.tup (.cons (.v 2) (.cons (.bin .add (.bin .add (.v 2) (.int 1)) (.call 32 (.cons (.v 0) (.cons (.tup (.cons (.int 0) (.cons (.call 31 (.cons (.v 0) (.cons (.int 4) .nil))) (.cons (.call 31 (.cons (.v 0) (.cons (.int 12) .nil))) (.cons (.call 31 (.cons (.v 0) (.cons (.int 60) .nil))) .nil))))) .nil)))) .nil))))
    .nil))⟩
def d43 : DefI := ⟨"_law_any_stay", top 57, ["urn", "high", "begin"], ["urn", "high"], f43⟩
def f44 : FnI := ⟨3, 8, false,
    (.cons (.asg (.n 3) (.call 40 (.cons (.v 1) (.cons (.v 2) .nil))))
    (.cons (.asg (.n 4) (.ite (.cmp .eq (.call 31 (.cons (.v 0) (.cons (.int 2) .nil))) (.int 0)) (.call 27 (.cons (.v 1) (.cons (.v 2) .nil))) (.callK 27 .nil (.cons (.v 2) (.cons (.v 1) .nil)) [1, 0])))
    (.cons (.asg (.n 5) (.ite (.cmp .eq (.call 31 (.cons (.v 0) (.cons (.int 2) .nil))) (.int 0)) (.call 28 (.cons (.v 1) (.cons (.v 2) .nil))) (.callK 28 .nil (.cons (.v 2) (.cons (.v 1) .nil)) [1, 0])))
    (.cons (.iff (.or (.not (.call 35 (.cons (.v 4) (.cons (.cmp .is (.v 3) .non) .nil)))) (.cmp .ne (.cmp .is (.v 5) .non) (.cmp .is (.v 3) .non))) (.cons (.ret (.bl false))
    .nil) .nil)
    (.cons (.iff (.and (.cmp .isnot (.v 5) .non) (.or (.not (.call 36 (.cons (.v 5) .nil))) (.or (.cmp .le (.call 38 (.cons (.v 1) (.cons (.v 5) .nil))) (.call 38 (.cons (.v 2) (.cons (.v 5) .nil)))) (.cmp .le (.call 25 (.cons (.v 1) (.cons (.v 5) .nil))) (.call 25 (.cons (.v 2) (.cons (.v 5) .nil))))))) (.cons (.ret (.bl false))
    .nil) .nil)
    (.cons (.for_ (.n 6) (.rng1 (.int 4)) (.cons (.asg (.n 7) (.call 43 (.cons (.v 0) (.cons (.int 90000) .nil))))
    (.cons (.iff (.and (.cmp .is (.v 3) .non) (.or (.cmp .gt (.call 25 (.cons (.v 1) (.cons (.v 7) .nil))) (.call 25 (.cons (.v 2) (.cons (.v 7) .nil)))) (.cmp .gt (.call 38 (.cons (.v 1) (.cons (.v 7) .nil))) (.call 38 (.cons (.v 2) (.cons (.v 7) .nil)))))) (.cons (.ret (.bl false))
    .nil) .nil)
    .nil)))
    (.cons (.ret (.bl true))
    .nil)))))))⟩
def d44 : DefI := ⟨"_law_is_told", top 58, ["urn", "plan", "other", "due", "told", "stay", "lap", "each"], ["urn", "plan", "other"], f44⟩
def f45 : FnI := ⟨1, 8, false,
    (.cons (.for_ (.n 1) (.rng1 (.int 2)) (.cons (.asg (.n 2) (.call 41 (.cons (.v 0) (.cons (.call 32 (.cons (.v 0) (.cons (.tup (.cons (.int 4) (.cons (.int 5) (.cons (.int 6) (.cons (.int 10) .nil))))) .nil))) (.cons (.call 32 (.cons (.v 0) (.cons (.tup (.cons (.int 3) (.cons (.int 9) (.cons (.int 60) (.cons (.int 999) .nil))))) .nil))) .nil)))))
    (.cons (.asg (.n 3) (.call 32 (.cons (.v 0) (.cons (.tup (.cons (.call 42 (.cons (.v 0) (.cons (.v 2) .nil))) (.cons (.call 42 (.cons (.v 0) (.cons (.call 42 (.cons (.v 0) (.cons (.v 2) .nil))) .nil))) (.cons (.call 41 (.cons (.v 0) (.cons (.int 6) (.cons (.int 12) .nil)))) .nil)))) .nil))))
    (.cons (.asg (.n 4) (.bin .add (.v 2) (.bin .mul (.tup (.cons (.tup (.cons (.bin .add (.int 1) (.call 31 (.cons (.v 0) (.cons (.int 10) .nil)))) (.cons (.call 31 (.cons (.v 0) (.cons (.int 40) .nil))) .nil))) .nil)) (.ite (.cmp .lt (.bi .len (.cons (.v 2) .nil)) (.int 4)) (.int 1) (.int 0)))))
    (.cons (.for_ (.t (.cons (.n 5) (.cons (.n 6) .nil))) (.seq (.tup (.cons (.tup (.cons (.v 2) (.cons (.v 3) .nil))) (.cons (.tup (.cons (.v 3) (.cons (.v 2) .nil))) (.cons (.tup (.cons (.v 2) (.cons (.v 4) .nil))) .nil))))) (.cons (.iff (.not (.call 44 (.cons (.v 0) (.cons (.v 5) (.cons (.v 6) .nil))))) (.cons (.ret (.bl false))
    .nil) .nil)
    .nil))
    (.cons (.iff (.or (.cmp .isnot (.call 27 (.cons (.v 2) (.cons (.v 4) .nil))) (.bl true)) (.cmp .isnot (.call 27 (.cons (.v 2) (.cons (.rev (.v 2)) .nil))) (.bl true))) (.cons (.ret (.bl false))
    .nil) .nil)
    (.cons (.asg (.n 7) (.and (.cmp .is (.call 40 (.cons (.v 2) (.cons (.v 3) .nil))) .non) (.cmp .is (.call 40 (.cons (.v 3) (.cons (.v 2) .nil))) .non)))
    (.cons (.iff (.not (.call 35 (.cons (.tup (.cons (.call 29 (.cons (.v 2) (.cons (.v 3) .nil))) (.cons (.callK 29 .nil (.cons (.v 2) (.cons (.v 3) .nil)) [1, 0]) .nil))) (.cons (.tup (.cons (.v 7) (.cons (.v 7) .nil))) .nil)))) (.cons (.ret (.bl false))
    .nil) .nil)
    .nil))))))))
    (.cons (.ret (.bl true))
    .nil))⟩
def d45 : DefI := ⟨"_law_right", top 59, ["urn", "lap", "plan", "other", "more", "one", "two", "alike"], ["urn"], f45⟩
def f46 : FnI := ⟨1, 2, false,
    (.cons (.ret (.bi .all (.cons (.comp false (.call 45 (.cons (.call 30 (.cons (.v 0) (.cons (.v 1) .nil))) .nil)) (.n 1) (.rng1 (.int 2)) .nil [1]) .nil)))
    .nil)⟩
def d46 : DefI := ⟨"law", top 60, ["script", "lap"], ["script"], f46⟩
def dsL0 : List DefI := [d0, d1, d2, d3, d4, d5, d6, d7, d8, d9, d10, d11]
def dsL1 : List DefI := [d12, d13, d14, d15, d16, d17, d18, d19, d20, d21, d22, d23]
def dsL2 : List DefI := [d24, d25, d26, d27, d28, d29, d30, d31, d32, d33, d34, d35]
def dsL3 : List DefI := [d36, d37, d38, d39, d40, d41, d42, d43, d44, d45, d46]
def dsL : List DefI := dsL0 ++ dsL1 ++ dsL2 ++ dsL3
def csL : List (Str × D) := [("MOST_DAY", .int 99999), ("MOST_PAIRS", .int 4), ("MOST_STEP", .int 10), ("MOST_KEEP", .int 999)]
def nmL0 : List Str := ["is_number", "is_up_to", "is_between", "is_day", "is_tuple_up_to", "is_tuple_of", "is_pair", "is_step_and_keep", "is_plan_by", "is_stay_by", "check_plan", "check_stay"]
def nmL1 : List Str := ["last_made", "last_day", "tail_by_pair", "tail_by", "greatest_divisor", "least_multiple", "period_of", "stay_of", "stays_for", "longer_stay_by", "is_never_longer_by", "are_alike_by"]
def nmL2 : List Str := ["check_both", "tail", "check_two", "is_never_longer", "longer_stay", "are_alike_plans", "_law_urn", "_law_nip", "_law_any_of", "_law_is_whole", "_law_is_up_to", "_law_same"]
def nmL3 : List Str := ["_law_is_stay", "_law_trace", "_law_tail", "_law_window", "_law_longer", "_law_any_plan", "_law_near_plan", "_law_any_stay", "_law_is_told", "_law_right", "law"]
def nmL : List Str := nmL0 ++ nmL1 ++ nmL2 ++ nmL3
def looseL0 : List Str := ["HoldError", "InvalidPlan", "InvalidStay", "MOST_DAY", "is_number", "is_up_to", "is_between", "is_day", "is_tuple_up_to", "is_tuple_of", "is_pair", "MOST_PAIRS"]
def looseL1 : List Str := ["MOST_STEP", "MOST_KEEP", "is_step_and_keep", "is_plan_by", "is_stay_by", "check_plan", "check_stay", "last_made", "last_day", "tail_by_pair", "tail_by", "greatest_divisor"]
def looseL2 : List Str := ["least_multiple", "period_of", "stay_of", "stays_for", "longer_stay_by", "is_never_longer_by", "are_alike_by", "check_both", "tail", "check_two", "is_never_longer", "longer_stay"]
def looseL3 : List Str := ["are_alike_plans", "_law_urn", "_law_nip", "_law_any_of", "_law_is_whole", "_law_is_up_to", "_law_same", "_law_is_stay", "_law_trace", "_law_tail", "_law_window", "_law_longer"]
def looseL4 : List Str := ["_law_any_plan", "_law_near_plan", "_law_any_stay", "_law_is_told", "_law_right"]
def looseL : List Str := looseL0 ++ looseL1 ++ looseL2 ++ looseL3 ++ looseL4
def tw : Wor := { fns := dsL.map (·.nm), par := dsL.map (·.ps), glb := csL.map (·.1) }
def pr : Pr := { fns := dsL.map (·.fi), glb := csL.map (·.2) }
theorem ckAll : dsL.all (ckD tw) = true := by decide +kernel
abbrev R0 : PySem.W.OpenRow := PySem.W.OpenLaw.row PySem.Challenge.rw_holdterms_k43_whole_plans_beside_one_ano
abbrev fa0 : List He.Fa := faR ((dsL.map fun d => (d.nm, d.st)).map (·.1))
abbrev fn0 : List He.DefD := fnR (dsL.map fun d => (d.nm, d.st))
abbrev hk0 : PySem.W.Hook := hookR 4 fa0 fn0 csL
def ob0 (s : PySem.W.SharedT) : AlR := obsRG 4 fa0 fn0 csL (HandSHeadRun.getT s)
theorem ob0_eq (s : PySem.W.SharedT) : ob0 s = hk0.obs s.abs := obsRG_eq (HandSHeadRun.getT_eq s)
theorem run0 (w : World) : HandSHeadRun.RunEq R0 (PySem.W.view R0.prog [60]) hk0 ob0 3000 looseL w := by
  intro os
  kernel_rfl
end RL

set_option Elab.async false
set_option linter.all false
set_option maxRecDepth 100000
set_option maxHeartbeats 4000000
namespace RL
open PySem PySem.Spec PyProof.Rows L2
theorem k_0 : gK pr.glb 0 = pure (.d (.int 99999)) := rfl
theorem k_1 : gK pr.glb 1 = pure (.d (.int 4)) := rfl
theorem k_2 : gK pr.glb 2 = pure (.d (.int 10)) := rfl
theorem k_3 : gK pr.glb 3 = pure (.d (.int 999)) := rfl
section
variable {n : Nat} {st : Sto} {i j k : Int} {Q : Val → Sto → Prop}
theorem s0 (hn : 1 ≤ n) : Go (callN pr n 0 [.d (.int i)]) st Q ↔ Q (.d (.bool (decide (0 ≤ i)))) st := by
  obtain ⟨m, rfl⟩ : ∃ m, n = m + 1 := ⟨n - 1, by omega⟩
  rw [go_call (fi := f0) rfl rfl]
  simp (maxSteps := 2000000) (disch := first | omega | assumption | (simp only [List.length_map, List.length_append, List.length_cons, List.length_nil, List.length_take, List.length_drop, List.length_reverse, List.length_replicate]; omega)) only [f0, ↓w_nil, ↓w_cons, ↓g_comp, ↓g_comp2, ↓s_for, ↓s_while, ↓g_non, ↓g_bl, ↓g_int, ↓g_str, ↓g_v, ↓g_g, ↓g_get0, ↓g_gets, ↓g_neg, ↓g_bin, ↓g_cmp, ↓g_cmp2, ↓g_and, ↓g_or, ↓g_not, ↓g_ite, ↓g_call, ↓g_callK, ↓g_bi, ↓g_listC, ↓g_rgT, ↓g_rgL, ↓g_isi, ↓g_isiT, ↓g_tup, ↓g_lst, ↓g_ix, ↓g_sl, ↓g_rev, ↓g_app, ↓g_upper, ↓t_and, ↓t_or, ↓t_not, ↓t_ite, ↓t_bl, ↓t_cmp, ↓t_cmp2, ↓t_call, ↓t_callK, ↓t_bi, ↓t_isi, ↓t_isiT, ↓t_ix, ↓l_nil, ↓l_cons, ↓lt_nil, ↓lt_cons, ↓looks_nil, ↓looks_cons, ↓moves_nil, ↓moves_cons, ↓i_seq, ↓i_rng1, ↓i_rng2, ↓i_enum, ↓i_zip, ↓it_list, ↓it_tuple, ↓it_s, ↓gg_n, ↓gg_t, ↓gg_ix, ↓gs_nil, ↓gs_cons, ↓g_tupS, ↓g_lstS, ↓g_lstCS, ↓g_mkL, ↓g_mkC, ↓g_ixT, ↓g_ixL, ↓g_negK, ↓g_asCell, ↓p_nil, ↓p_one, ↓s_pass, ↓s_brk, ↓s_cont, ↓s_never, ↓s_expr, ↓s_ret, ↓s_retN, ↓s_asg, ↓s_par, ↓s_par3, ↓g_rgV, ↓g_rgVK, ↓g_revL, ↓g_revT, ↓s_aug, ↓s_iff, ↓b_add, ↓b_sub, ↓b_mulr, ↓b_mull, ↓b_fdiv, ↓b_mod, ↓b_addLS, ↓b_addTS, ↓q_eqI, ↓q_neI, ↓q_eqB, ↓q_neB, ↓q_lt, ↓q_le, ↓q_gt, ↓q_ge, ↓q_isN, ↓q_isB, ↓q_isnB, ↓isB_b, ↓q_isnN, ↓q_inB, ↓q_notinB, ↓f_lenT, ↓f_lenL, ↓f_int, ↓f_abs, ↓f_max2, ↓f_min2, ↓f_tupleL, ↓f_tupleT, ↓f_listL, ↓f_listT, ↓f_divmod, ↓f_all, ↓f_any, ↓f_sum, ↓a_0, ↓a_1, ↓a_2, ↓t_v, ↓go_cons, ↓go_nil, ↓go_bind, ↓go_pure, ↓go_lookM, ↓go_lookTM, ↓go_truB, ↓go_noneM, ↓go_moveM, ↓go_ite, ↓go_fin, startE, tyB, isNone, Tgs.len, Exs.len, List.map_cons, List.map_nil, List.length_cons, List.length_nil, List.cons_append, List.nil_append, List.take_length, if_true, Bool.not_false, Bool.not_true, List.set_cons_zero, List.set_cons_succ, Nat.reduceAdd, Nat.reduceSub, List.reduceReplicate, Bool.false_eq_true, if_false, reduceIte, and_self, Bool.true_eq_false, decide_true, decide_false]
theorem s1 (hn : 2 ≤ n) : Go (callN pr n 1 [.d (.int i), .d (.int j)]) st Q ↔ Q (.d (.bool (decide (0 ≤ i ∧ i ≤ j)))) st := by
  obtain ⟨m, rfl⟩ : ∃ m, n = m + 1 := ⟨n - 1, by omega⟩
  rw [go_call (fi := f1) rfl rfl]
  simp (maxSteps := 2000000) (disch := first | omega | assumption | (simp only [List.length_map, List.length_append, List.length_cons, List.length_nil, List.length_take, List.length_drop, List.length_reverse, List.length_replicate]; omega)) only [f1, s0, ↓w_nil, ↓w_cons, ↓g_comp, ↓g_comp2, ↓s_for, ↓s_while, ↓g_non, ↓g_bl, ↓g_int, ↓g_str, ↓g_v, ↓g_g, ↓g_get0, ↓g_gets, ↓g_neg, ↓g_bin, ↓g_cmp, ↓g_cmp2, ↓g_and, ↓g_or, ↓g_not, ↓g_ite, ↓g_call, ↓g_callK, ↓g_bi, ↓g_listC, ↓g_rgT, ↓g_rgL, ↓g_isi, ↓g_isiT, ↓g_tup, ↓g_lst, ↓g_ix, ↓g_sl, ↓g_rev, ↓g_app, ↓g_upper, ↓t_and, ↓t_or, ↓t_not, ↓t_ite, ↓t_bl, ↓t_cmp, ↓t_cmp2, ↓t_call, ↓t_callK, ↓t_bi, ↓t_isi, ↓t_isiT, ↓t_ix, ↓l_nil, ↓l_cons, ↓lt_nil, ↓lt_cons, ↓looks_nil, ↓looks_cons, ↓moves_nil, ↓moves_cons, ↓i_seq, ↓i_rng1, ↓i_rng2, ↓i_enum, ↓i_zip, ↓it_list, ↓it_tuple, ↓it_s, ↓gg_n, ↓gg_t, ↓gg_ix, ↓gs_nil, ↓gs_cons, ↓g_tupS, ↓g_lstS, ↓g_lstCS, ↓g_mkL, ↓g_mkC, ↓g_ixT, ↓g_ixL, ↓g_negK, ↓g_asCell, ↓p_nil, ↓p_one, ↓s_pass, ↓s_brk, ↓s_cont, ↓s_never, ↓s_expr, ↓s_ret, ↓s_retN, ↓s_asg, ↓s_par, ↓s_par3, ↓g_rgV, ↓g_rgVK, ↓g_revL, ↓g_revT, ↓s_aug, ↓s_iff, ↓b_add, ↓b_sub, ↓b_mulr, ↓b_mull, ↓b_fdiv, ↓b_mod, ↓b_addLS, ↓b_addTS, ↓q_eqI, ↓q_neI, ↓q_eqB, ↓q_neB, ↓q_lt, ↓q_le, ↓q_gt, ↓q_ge, ↓q_isN, ↓q_isB, ↓q_isnB, ↓isB_b, ↓q_isnN, ↓q_inB, ↓q_notinB, ↓f_lenT, ↓f_lenL, ↓f_int, ↓f_abs, ↓f_max2, ↓f_min2, ↓f_tupleL, ↓f_tupleT, ↓f_listL, ↓f_listT, ↓f_divmod, ↓f_all, ↓f_any, ↓f_sum, ↓a_0, ↓a_1, ↓a_2, ↓t_v, ↓go_cons, ↓go_nil, ↓go_bind, ↓go_pure, ↓go_lookM, ↓go_lookTM, ↓go_truB, ↓go_noneM, ↓go_moveM, ↓go_ite, ↓go_fin, startE, tyB, isNone, Tgs.len, Exs.len, List.map_cons, List.map_nil, List.length_cons, List.length_nil, List.cons_append, List.nil_append, List.take_length, if_true, Bool.not_false, Bool.not_true, List.set_cons_zero, List.set_cons_succ, Nat.reduceAdd, Nat.reduceSub, List.reduceReplicate, Bool.false_eq_true, if_false, reduceIte, and_self, Bool.true_eq_false, decide_true, decide_false]
  by_cases h : 0 ≤ i <;> simp [h]
theorem s2 (hn : 2 ≤ n) : Go (callN pr n 2 [.d (.int i), .d (.int j), .d (.int k)]) st Q ↔ Q (.d (.bool (decide (0 ≤ i ∧ j ≤ i ∧ i ≤ k)))) st := by
  obtain ⟨m, rfl⟩ : ∃ m, n = m + 1 := ⟨n - 1, by omega⟩
  rw [go_call (fi := f2) rfl rfl]
  simp (maxSteps := 2000000) (disch := first | omega | assumption | (simp only [List.length_map, List.length_append, List.length_cons, List.length_nil, List.length_take, List.length_drop, List.length_reverse, List.length_replicate]; omega)) only [f2, s0, ↓w_nil, ↓w_cons, ↓g_comp, ↓g_comp2, ↓s_for, ↓s_while, ↓g_non, ↓g_bl, ↓g_int, ↓g_str, ↓g_v, ↓g_g, ↓g_get0, ↓g_gets, ↓g_neg, ↓g_bin, ↓g_cmp, ↓g_cmp2, ↓g_and, ↓g_or, ↓g_not, ↓g_ite, ↓g_call, ↓g_callK, ↓g_bi, ↓g_listC, ↓g_rgT, ↓g_rgL, ↓g_isi, ↓g_isiT, ↓g_tup, ↓g_lst, ↓g_ix, ↓g_sl, ↓g_rev, ↓g_app, ↓g_upper, ↓t_and, ↓t_or, ↓t_not, ↓t_ite, ↓t_bl, ↓t_cmp, ↓t_cmp2, ↓t_call, ↓t_callK, ↓t_bi, ↓t_isi, ↓t_isiT, ↓t_ix, ↓l_nil, ↓l_cons, ↓lt_nil, ↓lt_cons, ↓looks_nil, ↓looks_cons, ↓moves_nil, ↓moves_cons, ↓i_seq, ↓i_rng1, ↓i_rng2, ↓i_enum, ↓i_zip, ↓it_list, ↓it_tuple, ↓it_s, ↓gg_n, ↓gg_t, ↓gg_ix, ↓gs_nil, ↓gs_cons, ↓g_tupS, ↓g_lstS, ↓g_lstCS, ↓g_mkL, ↓g_mkC, ↓g_ixT, ↓g_ixL, ↓g_negK, ↓g_asCell, ↓p_nil, ↓p_one, ↓s_pass, ↓s_brk, ↓s_cont, ↓s_never, ↓s_expr, ↓s_ret, ↓s_retN, ↓s_asg, ↓s_par, ↓s_par3, ↓g_rgV, ↓g_rgVK, ↓g_revL, ↓g_revT, ↓s_aug, ↓s_iff, ↓b_add, ↓b_sub, ↓b_mulr, ↓b_mull, ↓b_fdiv, ↓b_mod, ↓b_addLS, ↓b_addTS, ↓q_eqI, ↓q_neI, ↓q_eqB, ↓q_neB, ↓q_lt, ↓q_le, ↓q_gt, ↓q_ge, ↓q_isN, ↓q_isB, ↓q_isnB, ↓isB_b, ↓q_isnN, ↓q_inB, ↓q_notinB, ↓f_lenT, ↓f_lenL, ↓f_int, ↓f_abs, ↓f_max2, ↓f_min2, ↓f_tupleL, ↓f_tupleT, ↓f_listL, ↓f_listT, ↓f_divmod, ↓f_all, ↓f_any, ↓f_sum, ↓a_0, ↓a_1, ↓a_2, ↓t_v, ↓go_cons, ↓go_nil, ↓go_bind, ↓go_pure, ↓go_lookM, ↓go_lookTM, ↓go_truB, ↓go_noneM, ↓go_moveM, ↓go_ite, ↓go_fin, startE, tyB, isNone, Tgs.len, Exs.len, List.map_cons, List.map_nil, List.length_cons, List.length_nil, List.cons_append, List.nil_append, List.take_length, if_true, Bool.not_false, Bool.not_true, List.set_cons_zero, List.set_cons_succ, Nat.reduceAdd, Nat.reduceSub, List.reduceReplicate, Bool.false_eq_true, if_false, reduceIte, and_self, Bool.true_eq_false, decide_true, decide_false]
  by_cases h : 0 ≤ i <;> by_cases h2 : j ≤ i <;> simp [h, h2]
theorem s3 (hn : 3 ≤ n) : Go (callN pr n 3 [.d (.int i)]) st Q ↔ Q (.d (.bool (decide (0 ≤ i ∧ i ≤ 99999)))) st := by
  obtain ⟨m, rfl⟩ : ∃ m, n = m + 1 := ⟨n - 1, by omega⟩
  rw [go_call (fi := f3) rfl rfl]
  simp (maxSteps := 2000000) (disch := first | omega | assumption | (simp only [List.length_map, List.length_append, List.length_cons, List.length_nil, List.length_take, List.length_drop, List.length_reverse, List.length_replicate]; omega)) only [f3, s1, k_0, ↓w_nil, ↓w_cons, ↓g_comp, ↓g_comp2, ↓s_for, ↓s_while, ↓g_non, ↓g_bl, ↓g_int, ↓g_str, ↓g_v, ↓g_g, ↓g_get0, ↓g_gets, ↓g_neg, ↓g_bin, ↓g_cmp, ↓g_cmp2, ↓g_and, ↓g_or, ↓g_not, ↓g_ite, ↓g_call, ↓g_callK, ↓g_bi, ↓g_listC, ↓g_rgT, ↓g_rgL, ↓g_isi, ↓g_isiT, ↓g_tup, ↓g_lst, ↓g_ix, ↓g_sl, ↓g_rev, ↓g_app, ↓g_upper, ↓t_and, ↓t_or, ↓t_not, ↓t_ite, ↓t_bl, ↓t_cmp, ↓t_cmp2, ↓t_call, ↓t_callK, ↓t_bi, ↓t_isi, ↓t_isiT, ↓t_ix, ↓l_nil, ↓l_cons, ↓lt_nil, ↓lt_cons, ↓looks_nil, ↓looks_cons, ↓moves_nil, ↓moves_cons, ↓i_seq, ↓i_rng1, ↓i_rng2, ↓i_enum, ↓i_zip, ↓it_list, ↓it_tuple, ↓it_s, ↓gg_n, ↓gg_t, ↓gg_ix, ↓gs_nil, ↓gs_cons, ↓g_tupS, ↓g_lstS, ↓g_lstCS, ↓g_mkL, ↓g_mkC, ↓g_ixT, ↓g_ixL, ↓g_negK, ↓g_asCell, ↓p_nil, ↓p_one, ↓s_pass, ↓s_brk, ↓s_cont, ↓s_never, ↓s_expr, ↓s_ret, ↓s_retN, ↓s_asg, ↓s_par, ↓s_par3, ↓g_rgV, ↓g_rgVK, ↓g_revL, ↓g_revT, ↓s_aug, ↓s_iff, ↓b_add, ↓b_sub, ↓b_mulr, ↓b_mull, ↓b_fdiv, ↓b_mod, ↓b_addLS, ↓b_addTS, ↓q_eqI, ↓q_neI, ↓q_eqB, ↓q_neB, ↓q_lt, ↓q_le, ↓q_gt, ↓q_ge, ↓q_isN, ↓q_isB, ↓q_isnB, ↓isB_b, ↓q_isnN, ↓q_inB, ↓q_notinB, ↓f_lenT, ↓f_lenL, ↓f_int, ↓f_abs, ↓f_max2, ↓f_min2, ↓f_tupleL, ↓f_tupleT, ↓f_listL, ↓f_listT, ↓f_divmod, ↓f_all, ↓f_any, ↓f_sum, ↓a_0, ↓a_1, ↓a_2, ↓t_v, ↓go_cons, ↓go_nil, ↓go_bind, ↓go_pure, ↓go_lookM, ↓go_lookTM, ↓go_truB, ↓go_noneM, ↓go_moveM, ↓go_ite, ↓go_fin, startE, tyB, isNone, Tgs.len, Exs.len, List.map_cons, List.map_nil, List.length_cons, List.length_nil, List.cons_append, List.nil_append, List.take_length, if_true, Bool.not_false, Bool.not_true, List.set_cons_zero, List.set_cons_succ, Nat.reduceAdd, Nat.reduceSub, List.reduceReplicate, Bool.false_eq_true, if_false, reduceIte, and_self, Bool.true_eq_false, decide_true, decide_false]
theorem s4 (hn : 1 ≤ n) {xs : List D} : Go (callN pr n 4 [.d (.tuple xs), .d (.int j), .d (.int k)]) st Q ↔ Q (.d (.bool (decide (j ≤ xs.length ∧ (xs.length : Int) ≤ k)))) st := by
  obtain ⟨m, rfl⟩ : ∃ m, n = m + 1 := ⟨n - 1, by omega⟩
  rw [go_call (fi := f4) rfl rfl]
  simp (maxSteps := 2000000) (disch := first | omega | assumption | (simp only [List.length_map, List.length_append, List.length_cons, List.length_nil, List.length_take, List.length_drop, List.length_reverse, List.length_replicate]; omega)) only [f4, ↓w_nil, ↓w_cons, ↓g_comp, ↓g_comp2, ↓s_for, ↓s_while, ↓g_non, ↓g_bl, ↓g_int, ↓g_str, ↓g_v, ↓g_g, ↓g_get0, ↓g_gets, ↓g_neg, ↓g_bin, ↓g_cmp, ↓g_cmp2, ↓g_and, ↓g_or, ↓g_not, ↓g_ite, ↓g_call, ↓g_callK, ↓g_bi, ↓g_listC, ↓g_rgT, ↓g_rgL, ↓g_isi, ↓g_isiT, ↓g_tup, ↓g_lst, ↓g_ix, ↓g_sl, ↓g_rev, ↓g_app, ↓g_upper, ↓t_and, ↓t_or, ↓t_not, ↓t_ite, ↓t_bl, ↓t_cmp, ↓t_cmp2, ↓t_call, ↓t_callK, ↓t_bi, ↓t_isi, ↓t_isiT, ↓t_ix, ↓l_nil, ↓l_cons, ↓lt_nil, ↓lt_cons, ↓looks_nil, ↓looks_cons, ↓moves_nil, ↓moves_cons, ↓i_seq, ↓i_rng1, ↓i_rng2, ↓i_enum, ↓i_zip, ↓it_list, ↓it_tuple, ↓it_s, ↓gg_n, ↓gg_t, ↓gg_ix, ↓gs_nil, ↓gs_cons, ↓g_tupS, ↓g_lstS, ↓g_lstCS, ↓g_mkL, ↓g_mkC, ↓g_ixT, ↓g_ixL, ↓g_negK, ↓g_asCell, ↓p_nil, ↓p_one, ↓s_pass, ↓s_brk, ↓s_cont, ↓s_never, ↓s_expr, ↓s_ret, ↓s_retN, ↓s_asg, ↓s_par, ↓s_par3, ↓g_rgV, ↓g_rgVK, ↓g_revL, ↓g_revT, ↓s_aug, ↓s_iff, ↓b_add, ↓b_sub, ↓b_mulr, ↓b_mull, ↓b_fdiv, ↓b_mod, ↓b_addLS, ↓b_addTS, ↓q_eqI, ↓q_neI, ↓q_eqB, ↓q_neB, ↓q_lt, ↓q_le, ↓q_gt, ↓q_ge, ↓q_isN, ↓q_isB, ↓q_isnB, ↓isB_b, ↓q_isnN, ↓q_inB, ↓q_notinB, ↓f_lenT, ↓f_lenL, ↓f_int, ↓f_abs, ↓f_max2, ↓f_min2, ↓f_tupleL, ↓f_tupleT, ↓f_listL, ↓f_listT, ↓f_divmod, ↓f_all, ↓f_any, ↓f_sum, ↓a_0, ↓a_1, ↓a_2, ↓t_v, ↓go_cons, ↓go_nil, ↓go_bind, ↓go_pure, ↓go_lookM, ↓go_lookTM, ↓go_truB, ↓go_noneM, ↓go_moveM, ↓go_ite, ↓go_fin, startE, tyB, isNone, Tgs.len, Exs.len, List.map_cons, List.map_nil, List.length_cons, List.length_nil, List.cons_append, List.nil_append, List.take_length, if_true, Bool.not_false, Bool.not_true, List.set_cons_zero, List.set_cons_succ, Nat.reduceAdd, Nat.reduceSub, List.reduceReplicate, Bool.false_eq_true, if_false, reduceIte, and_self, Bool.true_eq_false, decide_true, decide_false]
  by_cases h : j ≤ xs.length <;> simp [h]
theorem s6 (hn : 3 ≤ n) {a b : D} : Go (callN pr n 6 [.d (.tuple [a, b])]) st Q ↔ Q (.d (.bool true)) st := by
  obtain ⟨m, rfl⟩ : ∃ m, n = m + 1 := ⟨n - 1, by omega⟩
  rw [go_call (fi := f6) rfl rfl]
  simp (maxSteps := 2000000) (disch := first | omega | assumption | (simp only [List.length_map, List.length_append, List.length_cons, List.length_nil, List.length_take, List.length_drop, List.length_reverse, List.length_replicate]; omega)) only [f6, ↓w_nil, ↓w_cons, ↓g_comp, ↓g_comp2, ↓s_for, ↓s_while, ↓g_non, ↓g_bl, ↓g_int, ↓g_str, ↓g_v, ↓g_g, ↓g_get0, ↓g_gets, ↓g_neg, ↓g_bin, ↓g_cmp, ↓g_cmp2, ↓g_and, ↓g_or, ↓g_not, ↓g_ite, ↓g_call, ↓g_callK, ↓g_bi, ↓g_listC, ↓g_rgT, ↓g_rgL, ↓g_isi, ↓g_isiT, ↓g_tup, ↓g_lst, ↓g_ix, ↓g_sl, ↓g_rev, ↓g_app, ↓g_upper, ↓t_and, ↓t_or, ↓t_not, ↓t_ite, ↓t_bl, ↓t_cmp, ↓t_cmp2, ↓t_call, ↓t_callK, ↓t_bi, ↓t_isi, ↓t_isiT, ↓t_ix, ↓l_nil, ↓l_cons, ↓lt_nil, ↓lt_cons, ↓looks_nil, ↓looks_cons, ↓moves_nil, ↓moves_cons, ↓i_seq, ↓i_rng1, ↓i_rng2, ↓i_enum, ↓i_zip, ↓it_list, ↓it_tuple, ↓it_s, ↓gg_n, ↓gg_t, ↓gg_ix, ↓gs_nil, ↓gs_cons, ↓g_tupS, ↓g_lstS, ↓g_lstCS, ↓g_mkL, ↓g_mkC, ↓g_ixT, ↓g_ixL, ↓g_negK, ↓g_asCell, ↓p_nil, ↓p_one, ↓s_pass, ↓s_brk, ↓s_cont, ↓s_never, ↓s_expr, ↓s_ret, ↓s_retN, ↓s_asg, ↓s_par, ↓s_par3, ↓g_rgV, ↓g_rgVK, ↓g_revL, ↓g_revT, ↓s_aug, ↓s_iff, ↓b_add, ↓b_sub, ↓b_mulr, ↓b_mull, ↓b_fdiv, ↓b_mod, ↓b_addLS, ↓b_addTS, ↓q_eqI, ↓q_neI, ↓q_eqB, ↓q_neB, ↓q_lt, ↓q_le, ↓q_gt, ↓q_ge, ↓q_isN, ↓q_isB, ↓q_isnB, ↓isB_b, ↓q_isnN, ↓q_inB, ↓q_notinB, ↓f_lenT, ↓f_lenL, ↓f_int, ↓f_abs, ↓f_max2, ↓f_min2, ↓f_tupleL, ↓f_tupleT, ↓f_listL, ↓f_listT, ↓f_divmod, ↓f_all, ↓f_any, ↓f_sum, ↓a_0, ↓a_1, ↓a_2, ↓t_v, ↓go_cons, ↓go_nil, ↓go_bind, ↓go_pure, ↓go_lookM, ↓go_lookTM, ↓go_truB, ↓go_noneM, ↓go_moveM, ↓go_ite, ↓go_fin, startE, tyB, isNone, Tgs.len, Exs.len, List.map_cons, List.map_nil, List.length_cons, List.length_nil, List.cons_append, List.nil_append, List.take_length, if_true, Bool.not_false, Bool.not_true, List.set_cons_zero, List.set_cons_succ, Nat.reduceAdd, Nat.reduceSub, List.reduceReplicate, Bool.false_eq_true, if_false, reduceIte, and_self, Bool.true_eq_false, decide_true, decide_false]
  obtain ⟨m, rfl⟩ : ∃ k, m = k + 1 := ⟨m - 1, by omega⟩
  rw [go_call (fi := f5) rfl rfl]
  simp (maxSteps := 2000000) (disch := first | omega | assumption | (simp only [List.length_map, List.length_append, List.length_cons, List.length_nil, List.length_take, List.length_drop, List.length_reverse, List.length_replicate]; omega)) only [f5, s4, ↓w_nil, ↓w_cons, ↓g_comp, ↓g_comp2, ↓s_for, ↓s_while, ↓g_non, ↓g_bl, ↓g_int, ↓g_str, ↓g_v, ↓g_g, ↓g_get0, ↓g_gets, ↓g_neg, ↓g_bin, ↓g_cmp, ↓g_cmp2, ↓g_and, ↓g_or, ↓g_not, ↓g_ite, ↓g_call, ↓g_callK, ↓g_bi, ↓g_listC, ↓g_rgT, ↓g_rgL, ↓g_isi, ↓g_isiT, ↓g_tup, ↓g_lst, ↓g_ix, ↓g_sl, ↓g_rev, ↓g_app, ↓g_upper, ↓t_and, ↓t_or, ↓t_not, ↓t_ite, ↓t_bl, ↓t_cmp, ↓t_cmp2, ↓t_call, ↓t_callK, ↓t_bi, ↓t_isi, ↓t_isiT, ↓t_ix, ↓l_nil, ↓l_cons, ↓lt_nil, ↓lt_cons, ↓looks_nil, ↓looks_cons, ↓moves_nil, ↓moves_cons, ↓i_seq, ↓i_rng1, ↓i_rng2, ↓i_enum, ↓i_zip, ↓it_list, ↓it_tuple, ↓it_s, ↓gg_n, ↓gg_t, ↓gg_ix, ↓gs_nil, ↓gs_cons, ↓g_tupS, ↓g_lstS, ↓g_lstCS, ↓g_mkL, ↓g_mkC, ↓g_ixT, ↓g_ixL, ↓g_negK, ↓g_asCell, ↓p_nil, ↓p_one, ↓s_pass, ↓s_brk, ↓s_cont, ↓s_never, ↓s_expr, ↓s_ret, ↓s_retN, ↓s_asg, ↓s_par, ↓s_par3, ↓g_rgV, ↓g_rgVK, ↓g_revL, ↓g_revT, ↓s_aug, ↓s_iff, ↓b_add, ↓b_sub, ↓b_mulr, ↓b_mull, ↓b_fdiv, ↓b_mod, ↓b_addLS, ↓b_addTS, ↓q_eqI, ↓q_neI, ↓q_eqB, ↓q_neB, ↓q_lt, ↓q_le, ↓q_gt, ↓q_ge, ↓q_isN, ↓q_isB, ↓q_isnB, ↓isB_b, ↓q_isnN, ↓q_inB, ↓q_notinB, ↓f_lenT, ↓f_lenL, ↓f_int, ↓f_abs, ↓f_max2, ↓f_min2, ↓f_tupleL, ↓f_tupleT, ↓f_listL, ↓f_listT, ↓f_divmod, ↓f_all, ↓f_any, ↓f_sum, ↓a_0, ↓a_1, ↓a_2, ↓t_v, ↓go_cons, ↓go_nil, ↓go_bind, ↓go_pure, ↓go_lookM, ↓go_lookTM, ↓go_truB, ↓go_noneM, ↓go_moveM, ↓go_ite, ↓go_fin, startE, tyB, isNone, Tgs.len, Exs.len, List.map_cons, List.map_nil, List.length_cons, List.length_nil, List.cons_append, List.nil_append, List.take_length, if_true, Bool.not_false, Bool.not_true, List.set_cons_zero, List.set_cons_succ, Nat.reduceAdd, Nat.reduceSub, List.reduceReplicate, Bool.false_eq_true, if_false, reduceIte, and_self, Bool.true_eq_false, decide_true, decide_false]
  simp
theorem s7 (hn : 4 ≤ n) : Go (callN pr n 7 [.d (.tuple [.int i, .int j])]) st Q ↔ Q (.d (.bool (decide (1 ≤ i ∧ i ≤ 10 ∧ 0 ≤ j ∧ j ≤ 999)))) st := by
  obtain ⟨m, rfl⟩ : ∃ m, n = m + 1 := ⟨n - 1, by omega⟩
  rw [go_call (fi := f7) rfl rfl]
  simp (maxSteps := 2000000) (disch := first | omega | assumption | (simp only [List.length_map, List.length_append, List.length_cons, List.length_nil, List.length_take, List.length_drop, List.length_reverse, List.length_replicate]; omega)) only [f7, s6, s2, s1, k_2, k_3, ↓w_nil, ↓w_cons, ↓g_comp, ↓g_comp2, ↓s_for, ↓s_while, ↓g_non, ↓g_bl, ↓g_int, ↓g_str, ↓g_v, ↓g_g, ↓g_get0, ↓g_gets, ↓g_neg, ↓g_bin, ↓g_cmp, ↓g_cmp2, ↓g_and, ↓g_or, ↓g_not, ↓g_ite, ↓g_call, ↓g_callK, ↓g_bi, ↓g_listC, ↓g_rgT, ↓g_rgL, ↓g_isi, ↓g_isiT, ↓g_tup, ↓g_lst, ↓g_ix, ↓g_sl, ↓g_rev, ↓g_app, ↓g_upper, ↓t_and, ↓t_or, ↓t_not, ↓t_ite, ↓t_bl, ↓t_cmp, ↓t_cmp2, ↓t_call, ↓t_callK, ↓t_bi, ↓t_isi, ↓t_isiT, ↓t_ix, ↓l_nil, ↓l_cons, ↓lt_nil, ↓lt_cons, ↓looks_nil, ↓looks_cons, ↓moves_nil, ↓moves_cons, ↓i_seq, ↓i_rng1, ↓i_rng2, ↓i_enum, ↓i_zip, ↓it_list, ↓it_tuple, ↓it_s, ↓gg_n, ↓gg_t, ↓gg_ix, ↓gs_nil, ↓gs_cons, ↓g_tupS, ↓g_lstS, ↓g_lstCS, ↓g_mkL, ↓g_mkC, ↓g_ixT, ↓g_ixL, ↓g_negK, ↓g_asCell, ↓p_nil, ↓p_one, ↓s_pass, ↓s_brk, ↓s_cont, ↓s_never, ↓s_expr, ↓s_ret, ↓s_retN, ↓s_asg, ↓s_par, ↓s_par3, ↓g_rgV, ↓g_rgVK, ↓g_revL, ↓g_revT, ↓s_aug, ↓s_iff, ↓b_add, ↓b_sub, ↓b_mulr, ↓b_mull, ↓b_fdiv, ↓b_mod, ↓b_addLS, ↓b_addTS, ↓q_eqI, ↓q_neI, ↓q_eqB, ↓q_neB, ↓q_lt, ↓q_le, ↓q_gt, ↓q_ge, ↓q_isN, ↓q_isB, ↓q_isnB, ↓isB_b, ↓q_isnN, ↓q_inB, ↓q_notinB, ↓f_lenT, ↓f_lenL, ↓f_int, ↓f_abs, ↓f_max2, ↓f_min2, ↓f_tupleL, ↓f_tupleT, ↓f_listL, ↓f_listT, ↓f_divmod, ↓f_all, ↓f_any, ↓f_sum, ↓a_0, ↓a_1, ↓a_2, ↓t_v, ↓go_cons, ↓go_nil, ↓go_bind, ↓go_pure, ↓go_lookM, ↓go_lookTM, ↓go_truB, ↓go_noneM, ↓go_moveM, ↓go_ite, ↓go_fin, startE, tyB, isNone, Tgs.len, Exs.len, List.map_cons, List.map_nil, List.length_cons, List.length_nil, List.cons_append, List.nil_append, List.take_length, if_true, Bool.not_false, Bool.not_true, List.set_cons_zero, List.set_cons_succ, Nat.reduceAdd, Nat.reduceSub, List.reduceReplicate, Bool.false_eq_true, if_false, reduceIte, and_self, Bool.true_eq_false, decide_true, decide_false]
  have e : (decide (0 ≤ i ∧ 1 ≤ i ∧ i ≤ 10) = true) ↔ (1 ≤ i ∧ i ≤ 10) := by rw [decide_eq_true_iff]; omega
  by_cases h : 1 ≤ i ∧ i ≤ 10
  · rw [if_pos (e.mpr h)]
    simp only [h.1, h.2, true_and]
  · have h' : ¬ (1 ≤ i ∧ i ≤ 10 ∧ 0 ≤ j ∧ j ≤ 999) := by omega
    rw [if_neg (fun z => h (e.mp z)), decide_eq_false h', decide_eq_false (by omega)]
/-! plans, stays -/
abbrev Pl := List (Int × Int)
def pD (p : Int × Int) : D := .tuple [.int p.1, .int p.2]
def plD (pl : Pl) : D := .tuple (pl.map pD)
structure Pok (pl : Pl) : Prop where
  ne : pl ≠ []
  len : pl.length ≤ 4
  all : ∀ p ∈ pl, 1 ≤ p.1 ∧ p.1 ≤ 10 ∧ 0 ≤ p.2 ∧ p.2 ≤ 999
structure Sok (a b : Int) : Prop where
  a0 : 0 ≤ a
  ab : a < b
  b9 : b ≤ 99999
theorem s8 (hn : 5 ≤ n) {pl : Pl} (h : Pok pl) : Go (callN pr n 8 [.d (plD pl)]) st Q ↔ Q (.d (.bool true)) st := by
  obtain ⟨m, rfl⟩ : ∃ m, n = m + 1 := ⟨n - 1, by omega⟩
  rw [go_call (fi := f8) rfl rfl]
  have hl : decide ((1 : Int) ≤ (pl.map pD).length ∧ ((pl.map pD).length : Int) ≤ 4) = true := by
    have h1 := h.len
    have h2 : 0 < pl.length := List.length_pos_iff.mpr h.ne
    simp
    omega
  simp (maxSteps := 2000000) (disch := first | omega | assumption | (simp only [List.length_map, List.length_append, List.length_cons, List.length_nil, List.length_take, List.length_drop, List.length_reverse, List.length_replicate]; omega)) only [f8, plD, s4, k_1, hl, ↓w_nil, ↓w_cons, ↓g_comp, ↓g_comp2, ↓s_for, ↓s_while, ↓g_non, ↓g_bl, ↓g_int, ↓g_str, ↓g_v, ↓g_g, ↓g_get0, ↓g_gets, ↓g_neg, ↓g_bin, ↓g_cmp, ↓g_cmp2, ↓g_and, ↓g_or, ↓g_not, ↓g_ite, ↓g_call, ↓g_callK, ↓g_bi, ↓g_listC, ↓g_rgT, ↓g_rgL, ↓g_isi, ↓g_isiT, ↓g_tup, ↓g_lst, ↓g_ix, ↓g_sl, ↓g_rev, ↓g_app, ↓g_upper, ↓t_and, ↓t_or, ↓t_not, ↓t_ite, ↓t_bl, ↓t_cmp, ↓t_cmp2, ↓t_call, ↓t_callK, ↓t_bi, ↓t_isi, ↓t_isiT, ↓t_ix, ↓l_nil, ↓l_cons, ↓lt_nil, ↓lt_cons, ↓looks_nil, ↓looks_cons, ↓moves_nil, ↓moves_cons, ↓i_seq, ↓i_rng1, ↓i_rng2, ↓i_enum, ↓i_zip, ↓it_list, ↓it_tuple, ↓it_s, ↓gg_n, ↓gg_t, ↓gg_ix, ↓gs_nil, ↓gs_cons, ↓g_tupS, ↓g_lstS, ↓g_lstCS, ↓g_mkL, ↓g_mkC, ↓g_ixT, ↓g_ixL, ↓g_negK, ↓g_asCell, ↓p_nil, ↓p_one, ↓s_pass, ↓s_brk, ↓s_cont, ↓s_never, ↓s_expr, ↓s_ret, ↓s_retN, ↓s_asg, ↓s_par, ↓s_par3, ↓g_rgV, ↓g_rgVK, ↓g_revL, ↓g_revT, ↓s_aug, ↓s_iff, ↓b_add, ↓b_sub, ↓b_mulr, ↓b_mull, ↓b_fdiv, ↓b_mod, ↓b_addLS, ↓b_addTS, ↓q_eqI, ↓q_neI, ↓q_eqB, ↓q_neB, ↓q_lt, ↓q_le, ↓q_gt, ↓q_ge, ↓q_isN, ↓q_isB, ↓q_isnB, ↓isB_b, ↓q_isnN, ↓q_inB, ↓q_notinB, ↓f_lenT, ↓f_lenL, ↓f_int, ↓f_abs, ↓f_max2, ↓f_min2, ↓f_tupleL, ↓f_tupleT, ↓f_listL, ↓f_listT, ↓f_divmod, ↓f_all, ↓f_any, ↓f_sum, ↓a_0, ↓a_1, ↓a_2, ↓t_v, ↓go_cons, ↓go_nil, ↓go_bind, ↓go_pure, ↓go_lookM, ↓go_lookTM, ↓go_truB, ↓go_noneM, ↓go_moveM, ↓go_ite, ↓go_fin, startE, tyB, isNone, Tgs.len, Exs.len, List.map_cons, List.map_nil, List.length_cons, List.length_nil, List.cons_append, List.nil_append, List.take_length, if_true, Bool.not_false, Bool.not_true, List.set_cons_zero, List.set_cons_succ, Nat.reduceAdd, Nat.reduceSub, List.reduceReplicate, Bool.false_eq_true, if_false, reduceIte, and_self, Bool.true_eq_false, decide_true, decide_false]
  rw [go_of (compL_pure (g := fun _ => [.bool true]) (fun x hx => ?_))]
  · rw [flatMap_one]
    have e : (pl.map pD).map (fun _ => PyData.bool true) = (pl.map fun _ => true).map .bool := by simp
    rw [e]
    simp only [all_bools, ↓w_nil, ↓w_cons, ↓g_comp, ↓g_comp2, ↓s_for, ↓s_while, ↓g_non, ↓g_bl, ↓g_int, ↓g_str, ↓g_v, ↓g_g, ↓g_get0, ↓g_gets, ↓g_neg, ↓g_bin, ↓g_cmp, ↓g_cmp2, ↓g_and, ↓g_or, ↓g_not, ↓g_ite, ↓g_call, ↓g_callK, ↓g_bi, ↓g_listC, ↓g_rgT, ↓g_rgL, ↓g_isi, ↓g_isiT, ↓g_tup, ↓g_lst, ↓g_ix, ↓g_sl, ↓g_rev, ↓g_app, ↓g_upper, ↓t_and, ↓t_or, ↓t_not, ↓t_ite, ↓t_bl, ↓t_cmp, ↓t_cmp2, ↓t_call, ↓t_callK, ↓t_bi, ↓t_isi, ↓t_isiT, ↓t_ix, ↓l_nil, ↓l_cons, ↓lt_nil, ↓lt_cons, ↓looks_nil, ↓looks_cons, ↓moves_nil, ↓moves_cons, ↓i_seq, ↓i_rng1, ↓i_rng2, ↓i_enum, ↓i_zip, ↓it_list, ↓it_tuple, ↓it_s, ↓gg_n, ↓gg_t, ↓gg_ix, ↓gs_nil, ↓gs_cons, ↓g_tupS, ↓g_lstS, ↓g_lstCS, ↓g_mkL, ↓g_mkC, ↓g_ixT, ↓g_ixL, ↓g_negK, ↓g_asCell, ↓p_nil, ↓p_one, ↓s_pass, ↓s_brk, ↓s_cont, ↓s_never, ↓s_expr, ↓s_ret, ↓s_retN, ↓s_asg, ↓s_par, ↓s_par3, ↓g_rgV, ↓g_rgVK, ↓g_revL, ↓g_revT, ↓s_aug, ↓s_iff, ↓b_add, ↓b_sub, ↓b_mulr, ↓b_mull, ↓b_fdiv, ↓b_mod, ↓b_addLS, ↓b_addTS, ↓q_eqI, ↓q_neI, ↓q_eqB, ↓q_neB, ↓q_lt, ↓q_le, ↓q_gt, ↓q_ge, ↓q_isN, ↓q_isB, ↓q_isnB, ↓isB_b, ↓q_isnN, ↓q_inB, ↓q_notinB, ↓f_lenT, ↓f_lenL, ↓f_int, ↓f_abs, ↓f_max2, ↓f_min2, ↓f_tupleL, ↓f_tupleT, ↓f_listL, ↓f_listT, ↓f_divmod, ↓f_all, ↓f_any, ↓f_sum, ↓a_0, ↓a_1, ↓a_2, ↓t_v, ↓go_cons, ↓go_nil, ↓go_bind, ↓go_pure, ↓go_lookM, ↓go_lookTM, ↓go_truB, ↓go_noneM, ↓go_moveM, ↓go_ite, ↓go_fin, startE, tyB, isNone, Tgs.len, Exs.len, List.map_cons, List.map_nil, List.length_cons, List.length_nil, List.cons_append, List.nil_append, List.take_length, if_true, Bool.not_false, Bool.not_true, List.set_cons_zero, List.set_cons_succ, Nat.reduceAdd, Nat.reduceSub, List.reduceReplicate, Bool.false_eq_true, if_false, reduceIte, and_self, Bool.true_eq_false, decide_true, decide_false]
    rw [show (pl.map fun _ => true).all id = true by simp]
  · obtain ⟨p, hp, rfl⟩ := List.mem_map.mp hx
    apply ok_of
    simp (maxSteps := 2000000) (disch := first | omega | assumption | (simp only [List.length_map, List.length_append, List.length_cons, List.length_nil, List.length_take, List.length_drop, List.length_reverse, List.length_replicate]; omega)) only [↓g_compF, wipeE, pD, s7, ↓w_nil, ↓w_cons, ↓g_comp, ↓g_comp2, ↓s_for, ↓s_while, ↓g_non, ↓g_bl, ↓g_int, ↓g_str, ↓g_v, ↓g_g, ↓g_get0, ↓g_gets, ↓g_neg, ↓g_bin, ↓g_cmp, ↓g_cmp2, ↓g_and, ↓g_or, ↓g_not, ↓g_ite, ↓g_call, ↓g_callK, ↓g_bi, ↓g_listC, ↓g_rgT, ↓g_rgL, ↓g_isi, ↓g_isiT, ↓g_tup, ↓g_lst, ↓g_ix, ↓g_sl, ↓g_rev, ↓g_app, ↓g_upper, ↓t_and, ↓t_or, ↓t_not, ↓t_ite, ↓t_bl, ↓t_cmp, ↓t_cmp2, ↓t_call, ↓t_callK, ↓t_bi, ↓t_isi, ↓t_isiT, ↓t_ix, ↓l_nil, ↓l_cons, ↓lt_nil, ↓lt_cons, ↓looks_nil, ↓looks_cons, ↓moves_nil, ↓moves_cons, ↓i_seq, ↓i_rng1, ↓i_rng2, ↓i_enum, ↓i_zip, ↓it_list, ↓it_tuple, ↓it_s, ↓gg_n, ↓gg_t, ↓gg_ix, ↓gs_nil, ↓gs_cons, ↓g_tupS, ↓g_lstS, ↓g_lstCS, ↓g_mkL, ↓g_mkC, ↓g_ixT, ↓g_ixL, ↓g_negK, ↓g_asCell, ↓p_nil, ↓p_one, ↓s_pass, ↓s_brk, ↓s_cont, ↓s_never, ↓s_expr, ↓s_ret, ↓s_retN, ↓s_asg, ↓s_par, ↓s_par3, ↓g_rgV, ↓g_rgVK, ↓g_revL, ↓g_revT, ↓s_aug, ↓s_iff, ↓b_add, ↓b_sub, ↓b_mulr, ↓b_mull, ↓b_fdiv, ↓b_mod, ↓b_addLS, ↓b_addTS, ↓q_eqI, ↓q_neI, ↓q_eqB, ↓q_neB, ↓q_lt, ↓q_le, ↓q_gt, ↓q_ge, ↓q_isN, ↓q_isB, ↓q_isnB, ↓isB_b, ↓q_isnN, ↓q_inB, ↓q_notinB, ↓f_lenT, ↓f_lenL, ↓f_int, ↓f_abs, ↓f_max2, ↓f_min2, ↓f_tupleL, ↓f_tupleT, ↓f_listL, ↓f_listT, ↓f_divmod, ↓f_all, ↓f_any, ↓f_sum, ↓a_0, ↓a_1, ↓a_2, ↓t_v, ↓go_cons, ↓go_nil, ↓go_bind, ↓go_pure, ↓go_lookM, ↓go_lookTM, ↓go_truB, ↓go_noneM, ↓go_moveM, ↓go_ite, ↓go_fin, startE, tyB, isNone, Tgs.len, Exs.len, List.map_cons, List.map_nil, List.length_cons, List.length_nil, List.cons_append, List.nil_append, List.take_length, if_true, Bool.not_false, Bool.not_true, List.set_cons_zero, List.set_cons_succ, Nat.reduceAdd, Nat.reduceSub, List.reduceReplicate, Bool.false_eq_true, if_false, reduceIte, and_self, Bool.true_eq_false, decide_true, decide_false]
    have := h.all p hp
    simp [this]
theorem s9 (hn : 4 ≤ n) {a b : Int} (h : Sok a b) : Go (callN pr n 9 [.d (.tuple [.int a, .int b])]) st Q ↔ Q (.d (.bool true)) st := by
  obtain ⟨m, rfl⟩ : ∃ m, n = m + 1 := ⟨n - 1, by omega⟩
  rw [go_call (fi := f9) rfl rfl]
  have h1 := h.a0
  have h2 := h.ab
  have h3 := h.b9
  have e1 : decide (0 ≤ a ∧ a ≤ 99999) = true := by simp; omega
  have e2 : decide (0 ≤ b ∧ b ≤ 99999) = true := by simp; omega
  have e3 : decide (a < b) = true := by simp; omega
  simp (maxSteps := 2000000) (disch := first | omega | assumption | (simp only [List.length_map, List.length_append, List.length_cons, List.length_nil, List.length_take, List.length_drop, List.length_reverse, List.length_replicate]; omega)) only [f9, s6, s3, e1, e2, e3, ↓w_nil, ↓w_cons, ↓g_comp, ↓g_comp2, ↓s_for, ↓s_while, ↓g_non, ↓g_bl, ↓g_int, ↓g_str, ↓g_v, ↓g_g, ↓g_get0, ↓g_gets, ↓g_neg, ↓g_bin, ↓g_cmp, ↓g_cmp2, ↓g_and, ↓g_or, ↓g_not, ↓g_ite, ↓g_call, ↓g_callK, ↓g_bi, ↓g_listC, ↓g_rgT, ↓g_rgL, ↓g_isi, ↓g_isiT, ↓g_tup, ↓g_lst, ↓g_ix, ↓g_sl, ↓g_rev, ↓g_app, ↓g_upper, ↓t_and, ↓t_or, ↓t_not, ↓t_ite, ↓t_bl, ↓t_cmp, ↓t_cmp2, ↓t_call, ↓t_callK, ↓t_bi, ↓t_isi, ↓t_isiT, ↓t_ix, ↓l_nil, ↓l_cons, ↓lt_nil, ↓lt_cons, ↓looks_nil, ↓looks_cons, ↓moves_nil, ↓moves_cons, ↓i_seq, ↓i_rng1, ↓i_rng2, ↓i_enum, ↓i_zip, ↓it_list, ↓it_tuple, ↓it_s, ↓gg_n, ↓gg_t, ↓gg_ix, ↓gs_nil, ↓gs_cons, ↓g_tupS, ↓g_lstS, ↓g_lstCS, ↓g_mkL, ↓g_mkC, ↓g_ixT, ↓g_ixL, ↓g_negK, ↓g_asCell, ↓p_nil, ↓p_one, ↓s_pass, ↓s_brk, ↓s_cont, ↓s_never, ↓s_expr, ↓s_ret, ↓s_retN, ↓s_asg, ↓s_par, ↓s_par3, ↓g_rgV, ↓g_rgVK, ↓g_revL, ↓g_revT, ↓s_aug, ↓s_iff, ↓b_add, ↓b_sub, ↓b_mulr, ↓b_mull, ↓b_fdiv, ↓b_mod, ↓b_addLS, ↓b_addTS, ↓q_eqI, ↓q_neI, ↓q_eqB, ↓q_neB, ↓q_lt, ↓q_le, ↓q_gt, ↓q_ge, ↓q_isN, ↓q_isB, ↓q_isnB, ↓isB_b, ↓q_isnN, ↓q_inB, ↓q_notinB, ↓f_lenT, ↓f_lenL, ↓f_int, ↓f_abs, ↓f_max2, ↓f_min2, ↓f_tupleL, ↓f_tupleT, ↓f_listL, ↓f_listT, ↓f_divmod, ↓f_all, ↓f_any, ↓f_sum, ↓a_0, ↓a_1, ↓a_2, ↓t_v, ↓go_cons, ↓go_nil, ↓go_bind, ↓go_pure, ↓go_lookM, ↓go_lookTM, ↓go_truB, ↓go_noneM, ↓go_moveM, ↓go_ite, ↓go_fin, startE, tyB, isNone, Tgs.len, Exs.len, List.map_cons, List.map_nil, List.length_cons, List.length_nil, List.cons_append, List.nil_append, List.take_length, if_true, Bool.not_false, Bool.not_true, List.set_cons_zero, List.set_cons_succ, Nat.reduceAdd, Nat.reduceSub, List.reduceReplicate, Bool.false_eq_true, if_false, reduceIte, and_self, Bool.true_eq_false, decide_true, decide_false]
theorem s10 (hn : 6 ≤ n) {pl : Pl} (h : Pok pl) : Go (callN pr n 10 [.d (plD pl)]) st Q ↔ Q (.d .none) st := by
  obtain ⟨m, rfl⟩ : ∃ m, n = m + 1 := ⟨n - 1, by omega⟩
  rw [go_call (fi := f10) rfl rfl]
  simp (maxSteps := 2000000) (disch := first | omega | assumption | (simp only [List.length_map, List.length_append, List.length_cons, List.length_nil, List.length_take, List.length_drop, List.length_reverse, List.length_replicate]; omega)) only [f10, s8, ↓w_nil, ↓w_cons, ↓g_comp, ↓g_comp2, ↓s_for, ↓s_while, ↓g_non, ↓g_bl, ↓g_int, ↓g_str, ↓g_v, ↓g_g, ↓g_get0, ↓g_gets, ↓g_neg, ↓g_bin, ↓g_cmp, ↓g_cmp2, ↓g_and, ↓g_or, ↓g_not, ↓g_ite, ↓g_call, ↓g_callK, ↓g_bi, ↓g_listC, ↓g_rgT, ↓g_rgL, ↓g_isi, ↓g_isiT, ↓g_tup, ↓g_lst, ↓g_ix, ↓g_sl, ↓g_rev, ↓g_app, ↓g_upper, ↓t_and, ↓t_or, ↓t_not, ↓t_ite, ↓t_bl, ↓t_cmp, ↓t_cmp2, ↓t_call, ↓t_callK, ↓t_bi, ↓t_isi, ↓t_isiT, ↓t_ix, ↓l_nil, ↓l_cons, ↓lt_nil, ↓lt_cons, ↓looks_nil, ↓looks_cons, ↓moves_nil, ↓moves_cons, ↓i_seq, ↓i_rng1, ↓i_rng2, ↓i_enum, ↓i_zip, ↓it_list, ↓it_tuple, ↓it_s, ↓gg_n, ↓gg_t, ↓gg_ix, ↓gs_nil, ↓gs_cons, ↓g_tupS, ↓g_lstS, ↓g_lstCS, ↓g_mkL, ↓g_mkC, ↓g_ixT, ↓g_ixL, ↓g_negK, ↓g_asCell, ↓p_nil, ↓p_one, ↓s_pass, ↓s_brk, ↓s_cont, ↓s_never, ↓s_expr, ↓s_ret, ↓s_retN, ↓s_asg, ↓s_par, ↓s_par3, ↓g_rgV, ↓g_rgVK, ↓g_revL, ↓g_revT, ↓s_aug, ↓s_iff, ↓b_add, ↓b_sub, ↓b_mulr, ↓b_mull, ↓b_fdiv, ↓b_mod, ↓b_addLS, ↓b_addTS, ↓q_eqI, ↓q_neI, ↓q_eqB, ↓q_neB, ↓q_lt, ↓q_le, ↓q_gt, ↓q_ge, ↓q_isN, ↓q_isB, ↓q_isnB, ↓isB_b, ↓q_isnN, ↓q_inB, ↓q_notinB, ↓f_lenT, ↓f_lenL, ↓f_int, ↓f_abs, ↓f_max2, ↓f_min2, ↓f_tupleL, ↓f_tupleT, ↓f_listL, ↓f_listT, ↓f_divmod, ↓f_all, ↓f_any, ↓f_sum, ↓a_0, ↓a_1, ↓a_2, ↓t_v, ↓go_cons, ↓go_nil, ↓go_bind, ↓go_pure, ↓go_lookM, ↓go_lookTM, ↓go_truB, ↓go_noneM, ↓go_moveM, ↓go_ite, ↓go_fin, startE, tyB, isNone, Tgs.len, Exs.len, List.map_cons, List.map_nil, List.length_cons, List.length_nil, List.cons_append, List.nil_append, List.take_length, if_true, Bool.not_false, Bool.not_true, List.set_cons_zero, List.set_cons_succ, Nat.reduceAdd, Nat.reduceSub, List.reduceReplicate, Bool.false_eq_true, if_false, reduceIte, and_self, Bool.true_eq_false, decide_true, decide_false]
theorem s11 (hn : 5 ≤ n) {a b : Int} (h : Sok a b) : Go (callN pr n 11 [.d (.tuple [.int a, .int b])]) st Q ↔ Q (.d .none) st := by
  obtain ⟨m, rfl⟩ : ∃ m, n = m + 1 := ⟨n - 1, by omega⟩
  rw [go_call (fi := f11) rfl rfl]
  simp (maxSteps := 2000000) (disch := first | omega | assumption | (simp only [List.length_map, List.length_append, List.length_cons, List.length_nil, List.length_take, List.length_drop, List.length_reverse, List.length_replicate]; omega)) only [f11, s9, ↓w_nil, ↓w_cons, ↓g_comp, ↓g_comp2, ↓s_for, ↓s_while, ↓g_non, ↓g_bl, ↓g_int, ↓g_str, ↓g_v, ↓g_g, ↓g_get0, ↓g_gets, ↓g_neg, ↓g_bin, ↓g_cmp, ↓g_cmp2, ↓g_and, ↓g_or, ↓g_not, ↓g_ite, ↓g_call, ↓g_callK, ↓g_bi, ↓g_listC, ↓g_rgT, ↓g_rgL, ↓g_isi, ↓g_isiT, ↓g_tup, ↓g_lst, ↓g_ix, ↓g_sl, ↓g_rev, ↓g_app, ↓g_upper, ↓t_and, ↓t_or, ↓t_not, ↓t_ite, ↓t_bl, ↓t_cmp, ↓t_cmp2, ↓t_call, ↓t_callK, ↓t_bi, ↓t_isi, ↓t_isiT, ↓t_ix, ↓l_nil, ↓l_cons, ↓lt_nil, ↓lt_cons, ↓looks_nil, ↓looks_cons, ↓moves_nil, ↓moves_cons, ↓i_seq, ↓i_rng1, ↓i_rng2, ↓i_enum, ↓i_zip, ↓it_list, ↓it_tuple, ↓it_s, ↓gg_n, ↓gg_t, ↓gg_ix, ↓gs_nil, ↓gs_cons, ↓g_tupS, ↓g_lstS, ↓g_lstCS, ↓g_mkL, ↓g_mkC, ↓g_ixT, ↓g_ixL, ↓g_negK, ↓g_asCell, ↓p_nil, ↓p_one, ↓s_pass, ↓s_brk, ↓s_cont, ↓s_never, ↓s_expr, ↓s_ret, ↓s_retN, ↓s_asg, ↓s_par, ↓s_par3, ↓g_rgV, ↓g_rgVK, ↓g_revL, ↓g_revT, ↓s_aug, ↓s_iff, ↓b_add, ↓b_sub, ↓b_mulr, ↓b_mull, ↓b_fdiv, ↓b_mod, ↓b_addLS, ↓b_addTS, ↓q_eqI, ↓q_neI, ↓q_eqB, ↓q_neB, ↓q_lt, ↓q_le, ↓q_gt, ↓q_ge, ↓q_isN, ↓q_isB, ↓q_isnB, ↓isB_b, ↓q_isnN, ↓q_inB, ↓q_notinB, ↓f_lenT, ↓f_lenL, ↓f_int, ↓f_abs, ↓f_max2, ↓f_min2, ↓f_tupleL, ↓f_tupleT, ↓f_listL, ↓f_listT, ↓f_divmod, ↓f_all, ↓f_any, ↓f_sum, ↓a_0, ↓a_1, ↓a_2, ↓t_v, ↓go_cons, ↓go_nil, ↓go_bind, ↓go_pure, ↓go_lookM, ↓go_lookTM, ↓go_truB, ↓go_noneM, ↓go_moveM, ↓go_ite, ↓go_fin, startE, tyB, isNone, Tgs.len, Exs.len, List.map_cons, List.map_nil, List.length_cons, List.length_nil, List.cons_append, List.nil_append, List.take_length, if_true, Bool.not_false, Bool.not_true, List.set_cons_zero, List.set_cons_succ, Nat.reduceAdd, Nat.reduceSub, List.reduceReplicate, Bool.false_eq_true, if_false, reduceIte, and_self, Bool.true_eq_false, decide_true, decide_false]
theorem s12 (hn : 1 ≤ n) (h1 : 1 ≤ i) (h2 : i ≤ 10) : Go (callN pr n 12 [.d (.int i), .d (.int j)]) st Q ↔ Q (.d (.int (j / i * i))) st := by
  obtain ⟨m, rfl⟩ : ∃ m, n = m + 1 := ⟨n - 1, by omega⟩
  rw [go_call (fi := f12) rfl rfl]
  simp (maxSteps := 2000000) (disch := first | omega | assumption | (simp only [List.length_map, List.length_append, List.length_cons, List.length_nil, List.length_take, List.length_drop, List.length_reverse, List.length_replicate]; omega)) only [f12, ↓w_nil, ↓w_cons, ↓g_comp, ↓g_comp2, ↓s_for, ↓s_while, ↓g_non, ↓g_bl, ↓g_int, ↓g_str, ↓g_v, ↓g_g, ↓g_get0, ↓g_gets, ↓g_neg, ↓g_bin, ↓g_cmp, ↓g_cmp2, ↓g_and, ↓g_or, ↓g_not, ↓g_ite, ↓g_call, ↓g_callK, ↓g_bi, ↓g_listC, ↓g_rgT, ↓g_rgL, ↓g_isi, ↓g_isiT, ↓g_tup, ↓g_lst, ↓g_ix, ↓g_sl, ↓g_rev, ↓g_app, ↓g_upper, ↓t_and, ↓t_or, ↓t_not, ↓t_ite, ↓t_bl, ↓t_cmp, ↓t_cmp2, ↓t_call, ↓t_callK, ↓t_bi, ↓t_isi, ↓t_isiT, ↓t_ix, ↓l_nil, ↓l_cons, ↓lt_nil, ↓lt_cons, ↓looks_nil, ↓looks_cons, ↓moves_nil, ↓moves_cons, ↓i_seq, ↓i_rng1, ↓i_rng2, ↓i_enum, ↓i_zip, ↓it_list, ↓it_tuple, ↓it_s, ↓gg_n, ↓gg_t, ↓gg_ix, ↓gs_nil, ↓gs_cons, ↓g_tupS, ↓g_lstS, ↓g_lstCS, ↓g_mkL, ↓g_mkC, ↓g_ixT, ↓g_ixL, ↓g_negK, ↓g_asCell, ↓p_nil, ↓p_one, ↓s_pass, ↓s_brk, ↓s_cont, ↓s_never, ↓s_expr, ↓s_ret, ↓s_retN, ↓s_asg, ↓s_par, ↓s_par3, ↓g_rgV, ↓g_rgVK, ↓g_revL, ↓g_revT, ↓s_aug, ↓s_iff, ↓b_add, ↓b_sub, ↓b_mulr, ↓b_mull, ↓b_fdiv, ↓b_mod, ↓b_addLS, ↓b_addTS, ↓q_eqI, ↓q_neI, ↓q_eqB, ↓q_neB, ↓q_lt, ↓q_le, ↓q_gt, ↓q_ge, ↓q_isN, ↓q_isB, ↓q_isnB, ↓isB_b, ↓q_isnN, ↓q_inB, ↓q_notinB, ↓f_lenT, ↓f_lenL, ↓f_int, ↓f_abs, ↓f_max2, ↓f_min2, ↓f_tupleL, ↓f_tupleT, ↓f_listL, ↓f_listT, ↓f_divmod, ↓f_all, ↓f_any, ↓f_sum, ↓a_0, ↓a_1, ↓a_2, ↓t_v, ↓go_cons, ↓go_nil, ↓go_bind, ↓go_pure, ↓go_lookM, ↓go_lookTM, ↓go_truB, ↓go_noneM, ↓go_moveM, ↓go_ite, ↓go_fin, startE, tyB, isNone, Tgs.len, Exs.len, List.map_cons, List.map_nil, List.length_cons, List.length_nil, List.cons_append, List.nil_append, List.take_length, if_true, Bool.not_false, Bool.not_true, List.set_cons_zero, List.set_cons_succ, Nat.reduceAdd, Nat.reduceSub, List.reduceReplicate, Bool.false_eq_true, if_false, reduceIte, and_self, Bool.true_eq_false, decide_true, decide_false]
theorem s13 (hn : 1 ≤ n) {a b : Int} : Go (callN pr n 13 [.d (.tuple [.int a, .int b])]) st Q ↔ Q (.d (.int (b - 1))) st := by
  obtain ⟨m, rfl⟩ : ∃ m, n = m + 1 := ⟨n - 1, by omega⟩
  rw [go_call (fi := f13) rfl rfl]
  simp (maxSteps := 2000000) (disch := first | omega | assumption | (simp only [List.length_map, List.length_append, List.length_cons, List.length_nil, List.length_take, List.length_drop, List.length_reverse, List.length_replicate]; omega)) only [f13, ↓w_nil, ↓w_cons, ↓g_comp, ↓g_comp2, ↓s_for, ↓s_while, ↓g_non, ↓g_bl, ↓g_int, ↓g_str, ↓g_v, ↓g_g, ↓g_get0, ↓g_gets, ↓g_neg, ↓g_bin, ↓g_cmp, ↓g_cmp2, ↓g_and, ↓g_or, ↓g_not, ↓g_ite, ↓g_call, ↓g_callK, ↓g_bi, ↓g_listC, ↓g_rgT, ↓g_rgL, ↓g_isi, ↓g_isiT, ↓g_tup, ↓g_lst, ↓g_ix, ↓g_sl, ↓g_rev, ↓g_app, ↓g_upper, ↓t_and, ↓t_or, ↓t_not, ↓t_ite, ↓t_bl, ↓t_cmp, ↓t_cmp2, ↓t_call, ↓t_callK, ↓t_bi, ↓t_isi, ↓t_isiT, ↓t_ix, ↓l_nil, ↓l_cons, ↓lt_nil, ↓lt_cons, ↓looks_nil, ↓looks_cons, ↓moves_nil, ↓moves_cons, ↓i_seq, ↓i_rng1, ↓i_rng2, ↓i_enum, ↓i_zip, ↓it_list, ↓it_tuple, ↓it_s, ↓gg_n, ↓gg_t, ↓gg_ix, ↓gs_nil, ↓gs_cons, ↓g_tupS, ↓g_lstS, ↓g_lstCS, ↓g_mkL, ↓g_mkC, ↓g_ixT, ↓g_ixL, ↓g_negK, ↓g_asCell, ↓p_nil, ↓p_one, ↓s_pass, ↓s_brk, ↓s_cont, ↓s_never, ↓s_expr, ↓s_ret, ↓s_retN, ↓s_asg, ↓s_par, ↓s_par3, ↓g_rgV, ↓g_rgVK, ↓g_revL, ↓g_revT, ↓s_aug, ↓s_iff, ↓b_add, ↓b_sub, ↓b_mulr, ↓b_mull, ↓b_fdiv, ↓b_mod, ↓b_addLS, ↓b_addTS, ↓q_eqI, ↓q_neI, ↓q_eqB, ↓q_neB, ↓q_lt, ↓q_le, ↓q_gt, ↓q_ge, ↓q_isN, ↓q_isB, ↓q_isnB, ↓isB_b, ↓q_isnN, ↓q_inB, ↓q_notinB, ↓f_lenT, ↓f_lenL, ↓f_int, ↓f_abs, ↓f_max2, ↓f_min2, ↓f_tupleL, ↓f_tupleT, ↓f_listL, ↓f_listT, ↓f_divmod, ↓f_all, ↓f_any, ↓f_sum, ↓a_0, ↓a_1, ↓a_2, ↓t_v, ↓go_cons, ↓go_nil, ↓go_bind, ↓go_pure, ↓go_lookM, ↓go_lookTM, ↓go_truB, ↓go_noneM, ↓go_moveM, ↓go_ite, ↓go_fin, startE, tyB, isNone, Tgs.len, Exs.len, List.map_cons, List.map_nil, List.length_cons, List.length_nil, List.cons_append, List.nil_append, List.take_length, if_true, Bool.not_false, Bool.not_true, List.set_cons_zero, List.set_cons_succ, Nat.reduceAdd, Nat.reduceSub, List.reduceReplicate, Bool.false_eq_true, if_false, reduceIte, and_self, Bool.true_eq_false, decide_true, decide_false]
/-- the tails that a pair leaves -/
def tl (a b : Int) (p : Int × Int) : List Int := if a ≤ (b - 1) / p.1 * p.1 then [p.2 - ((b - 1) - (b - 1) / p.1 * p.1)] else []
theorem s14 (hn : 2 ≤ n) {a b : Int} {p : Int × Int} (h1 : 1 ≤ p.1) (h2 : p.1 ≤ 10) : Go (callN pr n 14 [.d (pD p), .d (.tuple [.int a, .int b])]) st Q ↔ Q (.d (.list ((tl a b p).map .int))) st := by
  obtain ⟨m, rfl⟩ : ∃ m, n = m + 1 := ⟨n - 1, by omega⟩
  rw [go_call (fi := f14) rfl rfl]
  simp (maxSteps := 2000000) (disch := first | omega | assumption | (simp only [List.length_map, List.length_append, List.length_cons, List.length_nil, List.length_take, List.length_drop, List.length_reverse, List.length_replicate]; omega)) only [f14, pD, s13, s12, ↓w_nil, ↓w_cons, ↓g_comp, ↓g_comp2, ↓s_for, ↓s_while, ↓g_non, ↓g_bl, ↓g_int, ↓g_str, ↓g_v, ↓g_g, ↓g_get0, ↓g_gets, ↓g_neg, ↓g_bin, ↓g_cmp, ↓g_cmp2, ↓g_and, ↓g_or, ↓g_not, ↓g_ite, ↓g_call, ↓g_callK, ↓g_bi, ↓g_listC, ↓g_rgT, ↓g_rgL, ↓g_isi, ↓g_isiT, ↓g_tup, ↓g_lst, ↓g_ix, ↓g_sl, ↓g_rev, ↓g_app, ↓g_upper, ↓t_and, ↓t_or, ↓t_not, ↓t_ite, ↓t_bl, ↓t_cmp, ↓t_cmp2, ↓t_call, ↓t_callK, ↓t_bi, ↓t_isi, ↓t_isiT, ↓t_ix, ↓l_nil, ↓l_cons, ↓lt_nil, ↓lt_cons, ↓looks_nil, ↓looks_cons, ↓moves_nil, ↓moves_cons, ↓i_seq, ↓i_rng1, ↓i_rng2, ↓i_enum, ↓i_zip, ↓it_list, ↓it_tuple, ↓it_s, ↓gg_n, ↓gg_t, ↓gg_ix, ↓gs_nil, ↓gs_cons, ↓g_tupS, ↓g_lstS, ↓g_lstCS, ↓g_mkL, ↓g_mkC, ↓g_ixT, ↓g_ixL, ↓g_negK, ↓g_asCell, ↓p_nil, ↓p_one, ↓s_pass, ↓s_brk, ↓s_cont, ↓s_never, ↓s_expr, ↓s_ret, ↓s_retN, ↓s_asg, ↓s_par, ↓s_par3, ↓g_rgV, ↓g_rgVK, ↓g_revL, ↓g_revT, ↓s_aug, ↓s_iff, ↓b_add, ↓b_sub, ↓b_mulr, ↓b_mull, ↓b_fdiv, ↓b_mod, ↓b_addLS, ↓b_addTS, ↓q_eqI, ↓q_neI, ↓q_eqB, ↓q_neB, ↓q_lt, ↓q_le, ↓q_gt, ↓q_ge, ↓q_isN, ↓q_isB, ↓q_isnB, ↓isB_b, ↓q_isnN, ↓q_inB, ↓q_notinB, ↓f_lenT, ↓f_lenL, ↓f_int, ↓f_abs, ↓f_max2, ↓f_min2, ↓f_tupleL, ↓f_tupleT, ↓f_listL, ↓f_listT, ↓f_divmod, ↓f_all, ↓f_any, ↓f_sum, ↓a_0, ↓a_1, ↓a_2, ↓t_v, ↓go_cons, ↓go_nil, ↓go_bind, ↓go_pure, ↓go_lookM, ↓go_lookTM, ↓go_truB, ↓go_noneM, ↓go_moveM, ↓go_ite, ↓go_fin, startE, tyB, isNone, Tgs.len, Exs.len, List.map_cons, List.map_nil, List.length_cons, List.length_nil, List.cons_append, List.nil_append, List.take_length, if_true, Bool.not_false, Bool.not_true, List.set_cons_zero, List.set_cons_succ, Nat.reduceAdd, Nat.reduceSub, List.reduceReplicate, Bool.false_eq_true, if_false, reduceIte, and_self, Bool.true_eq_false, decide_true, decide_false]
  unfold tl
  by_cases h : a ≤ (b - 1) / p.1 * p.1
  · simp (maxSteps := 2000000) (disch := first | omega | assumption | (simp only [List.length_map, List.length_append, List.length_cons, List.length_nil, List.length_take, List.length_drop, List.length_reverse, List.length_replicate]; omega)) only [h, g_lstK (xs := [_]) (by show 1 ≤ _; decide), ↓w_nil, ↓w_cons, ↓g_comp, ↓g_comp2, ↓s_for, ↓s_while, ↓g_non, ↓g_bl, ↓g_int, ↓g_str, ↓g_v, ↓g_g, ↓g_get0, ↓g_gets, ↓g_neg, ↓g_bin, ↓g_cmp, ↓g_cmp2, ↓g_and, ↓g_or, ↓g_not, ↓g_ite, ↓g_call, ↓g_callK, ↓g_bi, ↓g_listC, ↓g_rgT, ↓g_rgL, ↓g_isi, ↓g_isiT, ↓g_tup, ↓g_lst, ↓g_ix, ↓g_sl, ↓g_rev, ↓g_app, ↓g_upper, ↓t_and, ↓t_or, ↓t_not, ↓t_ite, ↓t_bl, ↓t_cmp, ↓t_cmp2, ↓t_call, ↓t_callK, ↓t_bi, ↓t_isi, ↓t_isiT, ↓t_ix, ↓l_nil, ↓l_cons, ↓lt_nil, ↓lt_cons, ↓looks_nil, ↓looks_cons, ↓moves_nil, ↓moves_cons, ↓i_seq, ↓i_rng1, ↓i_rng2, ↓i_enum, ↓i_zip, ↓it_list, ↓it_tuple, ↓it_s, ↓gg_n, ↓gg_t, ↓gg_ix, ↓gs_nil, ↓gs_cons, ↓g_tupS, ↓g_lstS, ↓g_lstCS, ↓g_mkL, ↓g_mkC, ↓g_ixT, ↓g_ixL, ↓g_negK, ↓g_asCell, ↓p_nil, ↓p_one, ↓s_pass, ↓s_brk, ↓s_cont, ↓s_never, ↓s_expr, ↓s_ret, ↓s_retN, ↓s_asg, ↓s_par, ↓s_par3, ↓g_rgV, ↓g_rgVK, ↓g_revL, ↓g_revT, ↓s_aug, ↓s_iff, ↓b_add, ↓b_sub, ↓b_mulr, ↓b_mull, ↓b_fdiv, ↓b_mod, ↓b_addLS, ↓b_addTS, ↓q_eqI, ↓q_neI, ↓q_eqB, ↓q_neB, ↓q_lt, ↓q_le, ↓q_gt, ↓q_ge, ↓q_isN, ↓q_isB, ↓q_isnB, ↓isB_b, ↓q_isnN, ↓q_inB, ↓q_notinB, ↓f_lenT, ↓f_lenL, ↓f_int, ↓f_abs, ↓f_max2, ↓f_min2, ↓f_tupleL, ↓f_tupleT, ↓f_listL, ↓f_listT, ↓f_divmod, ↓f_all, ↓f_any, ↓f_sum, ↓a_0, ↓a_1, ↓a_2, ↓t_v, ↓go_cons, ↓go_nil, ↓go_bind, ↓go_pure, ↓go_lookM, ↓go_lookTM, ↓go_truB, ↓go_noneM, ↓go_moveM, ↓go_ite, ↓go_fin, startE, tyB, isNone, Tgs.len, Exs.len, List.map_cons, List.map_nil, List.length_cons, List.length_nil, List.cons_append, List.nil_append, List.take_length, if_true, Bool.not_false, Bool.not_true, List.set_cons_zero, List.set_cons_succ, Nat.reduceAdd, Nat.reduceSub, List.reduceReplicate, Bool.false_eq_true, if_false, reduceIte, and_self, Bool.true_eq_false, decide_true, decide_false]
  · simp (maxSteps := 2000000) (disch := first | omega | assumption | (simp only [List.length_map, List.length_append, List.length_cons, List.length_nil, List.length_take, List.length_drop, List.length_reverse, List.length_replicate]; omega)) only [h, g_lstK (xs := []) (by show 0 ≤ _; decide), ↓w_nil, ↓w_cons, ↓g_comp, ↓g_comp2, ↓s_for, ↓s_while, ↓g_non, ↓g_bl, ↓g_int, ↓g_str, ↓g_v, ↓g_g, ↓g_get0, ↓g_gets, ↓g_neg, ↓g_bin, ↓g_cmp, ↓g_cmp2, ↓g_and, ↓g_or, ↓g_not, ↓g_ite, ↓g_call, ↓g_callK, ↓g_bi, ↓g_listC, ↓g_rgT, ↓g_rgL, ↓g_isi, ↓g_isiT, ↓g_tup, ↓g_lst, ↓g_ix, ↓g_sl, ↓g_rev, ↓g_app, ↓g_upper, ↓t_and, ↓t_or, ↓t_not, ↓t_ite, ↓t_bl, ↓t_cmp, ↓t_cmp2, ↓t_call, ↓t_callK, ↓t_bi, ↓t_isi, ↓t_isiT, ↓t_ix, ↓l_nil, ↓l_cons, ↓lt_nil, ↓lt_cons, ↓looks_nil, ↓looks_cons, ↓moves_nil, ↓moves_cons, ↓i_seq, ↓i_rng1, ↓i_rng2, ↓i_enum, ↓i_zip, ↓it_list, ↓it_tuple, ↓it_s, ↓gg_n, ↓gg_t, ↓gg_ix, ↓gs_nil, ↓gs_cons, ↓g_tupS, ↓g_lstS, ↓g_lstCS, ↓g_mkL, ↓g_mkC, ↓g_ixT, ↓g_ixL, ↓g_negK, ↓g_asCell, ↓p_nil, ↓p_one, ↓s_pass, ↓s_brk, ↓s_cont, ↓s_never, ↓s_expr, ↓s_ret, ↓s_retN, ↓s_asg, ↓s_par, ↓s_par3, ↓g_rgV, ↓g_rgVK, ↓g_revL, ↓g_revT, ↓s_aug, ↓s_iff, ↓b_add, ↓b_sub, ↓b_mulr, ↓b_mull, ↓b_fdiv, ↓b_mod, ↓b_addLS, ↓b_addTS, ↓q_eqI, ↓q_neI, ↓q_eqB, ↓q_neB, ↓q_lt, ↓q_le, ↓q_gt, ↓q_ge, ↓q_isN, ↓q_isB, ↓q_isnB, ↓isB_b, ↓q_isnN, ↓q_inB, ↓q_notinB, ↓f_lenT, ↓f_lenL, ↓f_int, ↓f_abs, ↓f_max2, ↓f_min2, ↓f_tupleL, ↓f_tupleT, ↓f_listL, ↓f_listT, ↓f_divmod, ↓f_all, ↓f_any, ↓f_sum, ↓a_0, ↓a_1, ↓a_2, ↓t_v, ↓go_cons, ↓go_nil, ↓go_bind, ↓go_pure, ↓go_lookM, ↓go_lookTM, ↓go_truB, ↓go_noneM, ↓go_moveM, ↓go_ite, ↓go_fin, startE, tyB, isNone, Tgs.len, Exs.len, List.map_cons, List.map_nil, List.length_cons, List.length_nil, List.cons_append, List.nil_append, List.take_length, if_true, Bool.not_false, Bool.not_true, List.set_cons_zero, List.set_cons_succ, Nat.reduceAdd, Nat.reduceSub, List.reduceReplicate, Bool.false_eq_true, if_false, reduceIte, and_self, Bool.true_eq_false, decide_true, decide_false]
def tls (pl : Pl) (a b : Int) : List Int := pl.flatMap (tl a b)
theorem tl_len (a b : Int) (p : Int × Int) : (tl a b p).length ≤ 1 := by
  unfold tl
  split <;> simp
theorem flat_len {α β : Type} {g : α → List β} (h : ∀ x, (g x).length ≤ 1) : ∀ l : List α, (l.flatMap g).length ≤ l.length
  | [] => by simp
  | x :: l => by
    have := flat_len h l
    have := h x
    rw [List.flatMap_cons, List.length_append, List.length_cons]; omega
theorem flat_map {α β γ : Type} (g : α → List β) (f : β → γ) (l : List α) : (l.flatMap fun x => (g x).map f) = (l.flatMap g).map f := by
  rw [List.map_flatMap]
def tail' (pl : Pl) (a b : Int) : Int := maxI 0 (tls pl a b)

theorem s15 (hn : 3 ≤ n) {a b : Int} {pl : Pl} (h : Pok pl) : Go (callN pr n 15 [.d (plD pl), .d (.tuple [.int a, .int b])]) st Q ↔ Q (.d (.int (tail' pl a b))) st := by
  obtain ⟨m, rfl⟩ : ∃ m, n = m + 1 := ⟨n - 1, by omega⟩
  rw [go_call (fi := f15) rfl rfl]
  have hl : (tls pl a b).length ≤ 4 := Nat.le_trans (flat_len (tl_len a b) pl) h.len
  simp (maxSteps := 2000000) (disch := first | omega | assumption | (simp only [List.length_map, List.length_append, List.length_cons, List.length_nil, List.length_take, List.length_drop, List.length_reverse, List.length_replicate]; omega)) only [f15, plD, g_lstK (xs := [_]) (big 1 (by decide)), ↓w_nil, ↓w_cons, ↓g_comp, ↓g_comp2, ↓s_for, ↓s_while, ↓g_non, ↓g_bl, ↓g_int, ↓g_str, ↓g_v, ↓g_g, ↓g_get0, ↓g_gets, ↓g_neg, ↓g_bin, ↓g_cmp, ↓g_cmp2, ↓g_and, ↓g_or, ↓g_not, ↓g_ite, ↓g_call, ↓g_callK, ↓g_bi, ↓g_listC, ↓g_rgT, ↓g_rgL, ↓g_isi, ↓g_isiT, ↓g_tup, ↓g_lst, ↓g_ix, ↓g_sl, ↓g_rev, ↓g_app, ↓g_upper, ↓t_and, ↓t_or, ↓t_not, ↓t_ite, ↓t_bl, ↓t_cmp, ↓t_cmp2, ↓t_call, ↓t_callK, ↓t_bi, ↓t_isi, ↓t_isiT, ↓t_ix, ↓l_nil, ↓l_cons, ↓lt_nil, ↓lt_cons, ↓looks_nil, ↓looks_cons, ↓moves_nil, ↓moves_cons, ↓i_seq, ↓i_rng1, ↓i_rng2, ↓i_enum, ↓i_zip, ↓it_list, ↓it_tuple, ↓it_s, ↓gg_n, ↓gg_t, ↓gg_ix, ↓gs_nil, ↓gs_cons, ↓g_tupS, ↓g_lstS, ↓g_lstCS, ↓g_mkL, ↓g_mkC, ↓g_ixT, ↓g_ixL, ↓g_negK, ↓g_asCell, ↓p_nil, ↓p_one, ↓s_pass, ↓s_brk, ↓s_cont, ↓s_never, ↓s_expr, ↓s_ret, ↓s_retN, ↓s_asg, ↓s_par, ↓s_par3, ↓g_rgV, ↓g_rgVK, ↓g_revL, ↓g_revT, ↓s_aug, ↓s_iff, ↓b_add, ↓b_sub, ↓b_mulr, ↓b_mull, ↓b_fdiv, ↓b_mod, ↓b_addLS, ↓b_addTS, ↓q_eqI, ↓q_neI, ↓q_eqB, ↓q_neB, ↓q_lt, ↓q_le, ↓q_gt, ↓q_ge, ↓q_isN, ↓q_isB, ↓q_isnB, ↓isB_b, ↓q_isnN, ↓q_inB, ↓q_notinB, ↓f_lenT, ↓f_lenL, ↓f_int, ↓f_abs, ↓f_max2, ↓f_min2, ↓f_tupleL, ↓f_tupleT, ↓f_listL, ↓f_listT, ↓f_divmod, ↓f_all, ↓f_any, ↓f_sum, ↓a_0, ↓a_1, ↓a_2, ↓t_v, ↓go_cons, ↓go_nil, ↓go_bind, ↓go_pure, ↓go_lookM, ↓go_lookTM, ↓go_truB, ↓go_noneM, ↓go_moveM, ↓go_ite, ↓go_fin, startE, tyB, isNone, Tgs.len, Exs.len, List.map_cons, List.map_nil, List.length_cons, List.length_nil, List.cons_append, List.nil_append, List.take_length, if_true, Bool.not_false, Bool.not_true, List.set_cons_zero, List.set_cons_succ, Nat.reduceAdd, Nat.reduceSub, List.reduceReplicate, Bool.false_eq_true, if_false, reduceIte, and_self, Bool.true_eq_false, decide_true, decide_false]
  rw [go_of (compL_map (g := fun p => (tl a b p).map .int) (fun p hp => ?_))]
  · have hb : ((tls pl a b).map PyData.int).length ≤ 4 := by rw [List.length_map]; exact hl
    have hb1 : [PyData.int 0].length + ((tls pl a b).map PyData.int).length ≤ sizeLine := big _ (by show 1 + _ ≤ _; omega)
    rw [flat_map, show (pl.flatMap fun x => tl a b x) = tls pl a b from rfl]
    simp (maxSteps := 2000000) (disch := first | omega | assumption | (simp only [List.length_map, List.length_append, List.length_cons, List.length_nil, List.length_take, List.length_drop, List.length_reverse, List.length_replicate]; omega)) only [g_lstK (big _ (Nat.le_trans hb (by decide))), ↓w_nil, ↓w_cons, ↓g_comp, ↓g_comp2, ↓s_for, ↓s_while, ↓g_non, ↓g_bl, ↓g_int, ↓g_str, ↓g_v, ↓g_g, ↓g_get0, ↓g_gets, ↓g_neg, ↓g_bin, ↓g_cmp, ↓g_cmp2, ↓g_and, ↓g_or, ↓g_not, ↓g_ite, ↓g_call, ↓g_callK, ↓g_bi, ↓g_listC, ↓g_rgT, ↓g_rgL, ↓g_isi, ↓g_isiT, ↓g_tup, ↓g_lst, ↓g_ix, ↓g_sl, ↓g_rev, ↓g_app, ↓g_upper, ↓t_and, ↓t_or, ↓t_not, ↓t_ite, ↓t_bl, ↓t_cmp, ↓t_cmp2, ↓t_call, ↓t_callK, ↓t_bi, ↓t_isi, ↓t_isiT, ↓t_ix, ↓l_nil, ↓l_cons, ↓lt_nil, ↓lt_cons, ↓looks_nil, ↓looks_cons, ↓moves_nil, ↓moves_cons, ↓i_seq, ↓i_rng1, ↓i_rng2, ↓i_enum, ↓i_zip, ↓it_list, ↓it_tuple, ↓it_s, ↓gg_n, ↓gg_t, ↓gg_ix, ↓gs_nil, ↓gs_cons, ↓g_tupS, ↓g_lstS, ↓g_lstCS, ↓g_mkL, ↓g_mkC, ↓g_ixT, ↓g_ixL, ↓g_negK, ↓g_asCell, ↓p_nil, ↓p_one, ↓s_pass, ↓s_brk, ↓s_cont, ↓s_never, ↓s_expr, ↓s_ret, ↓s_retN, ↓s_asg, ↓s_par, ↓s_par3, ↓g_rgV, ↓g_rgVK, ↓g_revL, ↓g_revT, ↓s_aug, ↓s_iff, ↓b_add, ↓b_sub, ↓b_mulr, ↓b_mull, ↓b_fdiv, ↓b_mod, ↓b_addLS, ↓b_addTS, ↓q_eqI, ↓q_neI, ↓q_eqB, ↓q_neB, ↓q_lt, ↓q_le, ↓q_gt, ↓q_ge, ↓q_isN, ↓q_isB, ↓q_isnB, ↓isB_b, ↓q_isnN, ↓q_inB, ↓q_notinB, ↓f_lenT, ↓f_lenL, ↓f_int, ↓f_abs, ↓f_max2, ↓f_min2, ↓f_tupleL, ↓f_tupleT, ↓f_listL, ↓f_listT, ↓f_divmod, ↓f_all, ↓f_any, ↓f_sum, ↓a_0, ↓a_1, ↓a_2, ↓t_v, ↓go_cons, ↓go_nil, ↓go_bind, ↓go_pure, ↓go_lookM, ↓go_lookTM, ↓go_truB, ↓go_noneM, ↓go_moveM, ↓go_ite, ↓go_fin, startE, tyB, isNone, Tgs.len, Exs.len, List.map_cons, List.map_nil, List.length_cons, List.length_nil, List.cons_append, List.nil_append, List.take_length, if_true, Bool.not_false, Bool.not_true, List.set_cons_zero, List.set_cons_succ, Nat.reduceAdd, Nat.reduceSub, List.reduceReplicate, Bool.false_eq_true, if_false, reduceIte, and_self, Bool.true_eq_false, decide_true, decide_false]
    rw [f_max1]
    exact Iff.rfl
  · have hp' := h.all p hp
    apply ok_of
    simp (maxSteps := 2000000) (disch := first | omega | assumption | (simp only [List.length_map, List.length_append, List.length_cons, List.length_nil, List.length_take, List.length_drop, List.length_reverse, List.length_replicate]; omega)) only [↓g_comp2F, wipeE, s14 (p := p) _ hp'.1 hp'.2.1, ↓w_nil, ↓w_cons, ↓g_comp, ↓g_comp2, ↓s_for, ↓s_while, ↓g_non, ↓g_bl, ↓g_int, ↓g_str, ↓g_v, ↓g_g, ↓g_get0, ↓g_gets, ↓g_neg, ↓g_bin, ↓g_cmp, ↓g_cmp2, ↓g_and, ↓g_or, ↓g_not, ↓g_ite, ↓g_call, ↓g_callK, ↓g_bi, ↓g_listC, ↓g_rgT, ↓g_rgL, ↓g_isi, ↓g_isiT, ↓g_tup, ↓g_lst, ↓g_ix, ↓g_sl, ↓g_rev, ↓g_app, ↓g_upper, ↓t_and, ↓t_or, ↓t_not, ↓t_ite, ↓t_bl, ↓t_cmp, ↓t_cmp2, ↓t_call, ↓t_callK, ↓t_bi, ↓t_isi, ↓t_isiT, ↓t_ix, ↓l_nil, ↓l_cons, ↓lt_nil, ↓lt_cons, ↓looks_nil, ↓looks_cons, ↓moves_nil, ↓moves_cons, ↓i_seq, ↓i_rng1, ↓i_rng2, ↓i_enum, ↓i_zip, ↓it_list, ↓it_tuple, ↓it_s, ↓gg_n, ↓gg_t, ↓gg_ix, ↓gs_nil, ↓gs_cons, ↓g_tupS, ↓g_lstS, ↓g_lstCS, ↓g_mkL, ↓g_mkC, ↓g_ixT, ↓g_ixL, ↓g_negK, ↓g_asCell, ↓p_nil, ↓p_one, ↓s_pass, ↓s_brk, ↓s_cont, ↓s_never, ↓s_expr, ↓s_ret, ↓s_retN, ↓s_asg, ↓s_par, ↓s_par3, ↓g_rgV, ↓g_rgVK, ↓g_revL, ↓g_revT, ↓s_aug, ↓s_iff, ↓b_add, ↓b_sub, ↓b_mulr, ↓b_mull, ↓b_fdiv, ↓b_mod, ↓b_addLS, ↓b_addTS, ↓q_eqI, ↓q_neI, ↓q_eqB, ↓q_neB, ↓q_lt, ↓q_le, ↓q_gt, ↓q_ge, ↓q_isN, ↓q_isB, ↓q_isnB, ↓isB_b, ↓q_isnN, ↓q_inB, ↓q_notinB, ↓f_lenT, ↓f_lenL, ↓f_int, ↓f_abs, ↓f_max2, ↓f_min2, ↓f_tupleL, ↓f_tupleT, ↓f_listL, ↓f_listT, ↓f_divmod, ↓f_all, ↓f_any, ↓f_sum, ↓a_0, ↓a_1, ↓a_2, ↓t_v, ↓go_cons, ↓go_nil, ↓go_bind, ↓go_pure, ↓go_lookM, ↓go_lookTM, ↓go_truB, ↓go_noneM, ↓go_moveM, ↓go_ite, ↓go_fin, startE, tyB, isNone, Tgs.len, Exs.len, List.map_cons, List.map_nil, List.length_cons, List.length_nil, List.cons_append, List.nil_append, List.take_length, if_true, Bool.not_false, Bool.not_true, List.set_cons_zero, List.set_cons_succ, Nat.reduceAdd, Nat.reduceSub, List.reduceReplicate, Bool.false_eq_true, if_false, reduceIte, and_self, Bool.true_eq_false, decide_true, decide_false]
    rw [go_of (compL_map (g := fun i => [PyData.int i]) (fun i _ => ?_))]
    · rw [flatMap_one]; exact ⟨rfl, rfl⟩
    · apply ok_of
      simp (maxSteps := 2000000) (disch := first | omega | assumption | (simp only [List.length_map, List.length_append, List.length_cons, List.length_nil, List.length_take, List.length_drop, List.length_reverse, List.length_replicate]; omega)) only [↓g_compF, wipeE, ↓w_nil, ↓w_cons, ↓g_comp, ↓g_comp2, ↓s_for, ↓s_while, ↓g_non, ↓g_bl, ↓g_int, ↓g_str, ↓g_v, ↓g_g, ↓g_get0, ↓g_gets, ↓g_neg, ↓g_bin, ↓g_cmp, ↓g_cmp2, ↓g_and, ↓g_or, ↓g_not, ↓g_ite, ↓g_call, ↓g_callK, ↓g_bi, ↓g_listC, ↓g_rgT, ↓g_rgL, ↓g_isi, ↓g_isiT, ↓g_tup, ↓g_lst, ↓g_ix, ↓g_sl, ↓g_rev, ↓g_app, ↓g_upper, ↓t_and, ↓t_or, ↓t_not, ↓t_ite, ↓t_bl, ↓t_cmp, ↓t_cmp2, ↓t_call, ↓t_callK, ↓t_bi, ↓t_isi, ↓t_isiT, ↓t_ix, ↓l_nil, ↓l_cons, ↓lt_nil, ↓lt_cons, ↓looks_nil, ↓looks_cons, ↓moves_nil, ↓moves_cons, ↓i_seq, ↓i_rng1, ↓i_rng2, ↓i_enum, ↓i_zip, ↓it_list, ↓it_tuple, ↓it_s, ↓gg_n, ↓gg_t, ↓gg_ix, ↓gs_nil, ↓gs_cons, ↓g_tupS, ↓g_lstS, ↓g_lstCS, ↓g_mkL, ↓g_mkC, ↓g_ixT, ↓g_ixL, ↓g_negK, ↓g_asCell, ↓p_nil, ↓p_one, ↓s_pass, ↓s_brk, ↓s_cont, ↓s_never, ↓s_expr, ↓s_ret, ↓s_retN, ↓s_asg, ↓s_par, ↓s_par3, ↓g_rgV, ↓g_rgVK, ↓g_revL, ↓g_revT, ↓s_aug, ↓s_iff, ↓b_add, ↓b_sub, ↓b_mulr, ↓b_mull, ↓b_fdiv, ↓b_mod, ↓b_addLS, ↓b_addTS, ↓q_eqI, ↓q_neI, ↓q_eqB, ↓q_neB, ↓q_lt, ↓q_le, ↓q_gt, ↓q_ge, ↓q_isN, ↓q_isB, ↓q_isnB, ↓isB_b, ↓q_isnN, ↓q_inB, ↓q_notinB, ↓f_lenT, ↓f_lenL, ↓f_int, ↓f_abs, ↓f_max2, ↓f_min2, ↓f_tupleL, ↓f_tupleT, ↓f_listL, ↓f_listT, ↓f_divmod, ↓f_all, ↓f_any, ↓f_sum, ↓a_0, ↓a_1, ↓a_2, ↓t_v, ↓go_cons, ↓go_nil, ↓go_bind, ↓go_pure, ↓go_lookM, ↓go_lookTM, ↓go_truB, ↓go_noneM, ↓go_moveM, ↓go_ite, ↓go_fin, startE, tyB, isNone, Tgs.len, Exs.len, List.map_cons, List.map_nil, List.length_cons, List.length_nil, List.cons_append, List.nil_append, List.take_length, if_true, Bool.not_false, Bool.not_true, List.set_cons_zero, List.set_cons_succ, Nat.reduceAdd, Nat.reduceSub, List.reduceReplicate, Bool.false_eq_true, if_false, reduceIte, and_self, Bool.true_eq_false, decide_true, decide_false]
def kp (pl : Pl) (d : Int) : List Int := pl.flatMap fun p => if d / p.1 * p.1 = d then [p.2] else []
theorem s24 (hn : 7 ≤ n) {a b : Int} {pl : Pl} (h : Pok pl) (h2 : Sok a b) : Go (callN pr n 24 [.d (plD pl), .d (.tuple [.int a, .int b])]) st Q ↔ Q (.d .none) st := by
  obtain ⟨m, rfl⟩ : ∃ m, n = m + 1 := ⟨n - 1, by omega⟩
  rw [go_call (fi := f24) rfl rfl]
  simp (maxSteps := 2000000) (disch := first | omega | assumption | (simp only [List.length_map, List.length_append, List.length_cons, List.length_nil, List.length_take, List.length_drop, List.length_reverse, List.length_replicate]; omega)) only [f24, s10 _ h, s11 _ h2, ↓w_nil, ↓w_cons, ↓g_comp, ↓g_comp2, ↓s_for, ↓s_while, ↓g_non, ↓g_bl, ↓g_int, ↓g_str, ↓g_v, ↓g_g, ↓g_get0, ↓g_gets, ↓g_neg, ↓g_bin, ↓g_cmp, ↓g_cmp2, ↓g_and, ↓g_or, ↓g_not, ↓g_ite, ↓g_call, ↓g_callK, ↓g_bi, ↓g_listC, ↓g_rgT, ↓g_rgL, ↓g_isi, ↓g_isiT, ↓g_tup, ↓g_lst, ↓g_ix, ↓g_sl, ↓g_rev, ↓g_app, ↓g_upper, ↓t_and, ↓t_or, ↓t_not, ↓t_ite, ↓t_bl, ↓t_cmp, ↓t_cmp2, ↓t_call, ↓t_callK, ↓t_bi, ↓t_isi, ↓t_isiT, ↓t_ix, ↓l_nil, ↓l_cons, ↓lt_nil, ↓lt_cons, ↓looks_nil, ↓looks_cons, ↓moves_nil, ↓moves_cons, ↓i_seq, ↓i_rng1, ↓i_rng2, ↓i_enum, ↓i_zip, ↓it_list, ↓it_tuple, ↓it_s, ↓gg_n, ↓gg_t, ↓gg_ix, ↓gs_nil, ↓gs_cons, ↓g_tupS, ↓g_lstS, ↓g_lstCS, ↓g_mkL, ↓g_mkC, ↓g_ixT, ↓g_ixL, ↓g_negK, ↓g_asCell, ↓p_nil, ↓p_one, ↓s_pass, ↓s_brk, ↓s_cont, ↓s_never, ↓s_expr, ↓s_ret, ↓s_retN, ↓s_asg, ↓s_par, ↓s_par3, ↓g_rgV, ↓g_rgVK, ↓g_revL, ↓g_revT, ↓s_aug, ↓s_iff, ↓b_add, ↓b_sub, ↓b_mulr, ↓b_mull, ↓b_fdiv, ↓b_mod, ↓b_addLS, ↓b_addTS, ↓q_eqI, ↓q_neI, ↓q_eqB, ↓q_neB, ↓q_lt, ↓q_le, ↓q_gt, ↓q_ge, ↓q_isN, ↓q_isB, ↓q_isnB, ↓isB_b, ↓q_isnN, ↓q_inB, ↓q_notinB, ↓f_lenT, ↓f_lenL, ↓f_int, ↓f_abs, ↓f_max2, ↓f_min2, ↓f_tupleL, ↓f_tupleT, ↓f_listL, ↓f_listT, ↓f_divmod, ↓f_all, ↓f_any, ↓f_sum, ↓a_0, ↓a_1, ↓a_2, ↓t_v, ↓go_cons, ↓go_nil, ↓go_bind, ↓go_pure, ↓go_lookM, ↓go_lookTM, ↓go_truB, ↓go_noneM, ↓go_moveM, ↓go_ite, ↓go_fin, startE, tyB, isNone, Tgs.len, Exs.len, List.map_cons, List.map_nil, List.length_cons, List.length_nil, List.cons_append, List.nil_append, List.take_length, if_true, Bool.not_false, Bool.not_true, List.set_cons_zero, List.set_cons_succ, Nat.reduceAdd, Nat.reduceSub, List.reduceReplicate, Bool.false_eq_true, if_false, reduceIte, and_self, Bool.true_eq_false, decide_true, decide_false]
theorem s25 (hn : 8 ≤ n) {a b : Int} {pl : Pl} (h : Pok pl) (h2 : Sok a b) : Go (callN pr n 25 [.d (plD pl), .d (.tuple [.int a, .int b])]) st Q ↔ Q (.d (.int (tail' pl a b))) st := by
  obtain ⟨m, rfl⟩ : ∃ m, n = m + 1 := ⟨n - 1, by omega⟩
  rw [go_call (fi := f25) rfl rfl]
  simp (maxSteps := 2000000) (disch := first | omega | assumption | (simp only [List.length_map, List.length_append, List.length_cons, List.length_nil, List.length_take, List.length_drop, List.length_reverse, List.length_replicate]; omega)) only [f25, s24 _ h h2, s15 _ h, ↓w_nil, ↓w_cons, ↓g_comp, ↓g_comp2, ↓s_for, ↓s_while, ↓g_non, ↓g_bl, ↓g_int, ↓g_str, ↓g_v, ↓g_g, ↓g_get0, ↓g_gets, ↓g_neg, ↓g_bin, ↓g_cmp, ↓g_cmp2, ↓g_and, ↓g_or, ↓g_not, ↓g_ite, ↓g_call, ↓g_callK, ↓g_bi, ↓g_listC, ↓g_rgT, ↓g_rgL, ↓g_isi, ↓g_isiT, ↓g_tup, ↓g_lst, ↓g_ix, ↓g_sl, ↓g_rev, ↓g_app, ↓g_upper, ↓t_and, ↓t_or, ↓t_not, ↓t_ite, ↓t_bl, ↓t_cmp, ↓t_cmp2, ↓t_call, ↓t_callK, ↓t_bi, ↓t_isi, ↓t_isiT, ↓t_ix, ↓l_nil, ↓l_cons, ↓lt_nil, ↓lt_cons, ↓looks_nil, ↓looks_cons, ↓moves_nil, ↓moves_cons, ↓i_seq, ↓i_rng1, ↓i_rng2, ↓i_enum, ↓i_zip, ↓it_list, ↓it_tuple, ↓it_s, ↓gg_n, ↓gg_t, ↓gg_ix, ↓gs_nil, ↓gs_cons, ↓g_tupS, ↓g_lstS, ↓g_lstCS, ↓g_mkL, ↓g_mkC, ↓g_ixT, ↓g_ixL, ↓g_negK, ↓g_asCell, ↓p_nil, ↓p_one, ↓s_pass, ↓s_brk, ↓s_cont, ↓s_never, ↓s_expr, ↓s_ret, ↓s_retN, ↓s_asg, ↓s_par, ↓s_par3, ↓g_rgV, ↓g_rgVK, ↓g_revL, ↓g_revT, ↓s_aug, ↓s_iff, ↓b_add, ↓b_sub, ↓b_mulr, ↓b_mull, ↓b_fdiv, ↓b_mod, ↓b_addLS, ↓b_addTS, ↓q_eqI, ↓q_neI, ↓q_eqB, ↓q_neB, ↓q_lt, ↓q_le, ↓q_gt, ↓q_ge, ↓q_isN, ↓q_isB, ↓q_isnB, ↓isB_b, ↓q_isnN, ↓q_inB, ↓q_notinB, ↓f_lenT, ↓f_lenL, ↓f_int, ↓f_abs, ↓f_max2, ↓f_min2, ↓f_tupleL, ↓f_tupleT, ↓f_listL, ↓f_listT, ↓f_divmod, ↓f_all, ↓f_any, ↓f_sum, ↓a_0, ↓a_1, ↓a_2, ↓t_v, ↓go_cons, ↓go_nil, ↓go_bind, ↓go_pure, ↓go_lookM, ↓go_lookTM, ↓go_truB, ↓go_noneM, ↓go_moveM, ↓go_ite, ↓go_fin, startE, tyB, isNone, Tgs.len, Exs.len, List.map_cons, List.map_nil, List.length_cons, List.length_nil, List.cons_append, List.nil_append, List.take_length, if_true, Bool.not_false, Bool.not_true, List.set_cons_zero, List.set_cons_succ, Nat.reduceAdd, Nat.reduceSub, List.reduceReplicate, Bool.false_eq_true, if_false, reduceIte, and_self, Bool.true_eq_false, decide_true, decide_false]
end
end RL


set_option Elab.async false
set_option linter.all false
set_option maxRecDepth 100000
set_option maxHeartbeats 4000000
namespace RL
open PySem PySem.Spec PyProof.Rows L2
section
variable {n : Nat} {st : Sto} {i j k : Int} {Q : Val → Sto → Prop}

/-- the days a .. b - 1 -/
def days (a b : Int) : List Int := (List.range (b - a).toNat).map fun (i : Nat) => a + i
theorem rg_days (a b : Int) : rgD a b = (days a b).map .int := by unfold rgD days; rw [List.map_map]; rfl
theorem days_nil {a b : Int} (h : b ≤ a) : days a b = [] := by unfold days; rw [show (b - a).toNat = 0 by omega]; rfl
theorem days_snoc {a b : Int} (h : a ≤ b) : days a (b + 1) = days a b ++ [b] := by
  unfold days
  rw [show (b + 1 - a).toNat = (b - a).toNat + 1 by omega, List.range_succ, List.map_append]
  congr 1
  show [a + (((b - a).toNat : Nat) : Int)] = [b]
  rw [show a + (((b - a).toNat : Nat) : Int) = b by omega]
theorem days_len (a b : Int) : (days a b).length = (b - a).toNat := by unfold days; simp
theorem days_mem {a b i : Int} : i ∈ days a b ↔ a ≤ i ∧ i < b := by
  unfold days
  rw [List.mem_map]
  constructor
  · rintro ⟨k, hk, rfl⟩
    have := List.mem_range.mp hk
    omega
  · rintro ⟨h1, h2⟩
    exact ⟨(i - a).toNat, List.mem_range.mpr (by omega), by omega⟩
/-! ### the law's own draws -/
theorem s31 {c : Nat} {x y z : Int} (hn : 1 ≤ n) (h : c < st.length) (h1 : 1 ≤ k) (h2 : k < 1073741824) (hq : ∀ r x' y' z', 0 ≤ r → r < k → Q (.d (.int r)) (U st c x' y' z')) : Go (callN pr n 31 [.r c, .d (.int k)]) (U st c x y z) Q := by
  obtain ⟨m, rfl⟩ : ∃ m, n = m + 1 := ⟨n - 1, by omega⟩
  rw [go_call (fi := f31) rfl rfl]
  simp (maxSteps := 2000000) (disch := first | omega | assumption | (simp only [List.length_map, List.length_append, List.length_cons, List.length_nil, List.length_take, List.length_drop, List.length_reverse, List.length_replicate]; omega)) only [f31, ↓u_look h, ↓w_nil, ↓w_cons, ↓g_comp, ↓g_comp2, ↓s_for, ↓s_while, ↓g_non, ↓g_bl, ↓g_int, ↓g_str, ↓g_v, ↓g_g, ↓g_get0, ↓g_gets, ↓g_neg, ↓g_bin, ↓g_cmp, ↓g_cmp2, ↓g_and, ↓g_or, ↓g_not, ↓g_ite, ↓g_call, ↓g_callK, ↓g_bi, ↓g_listC, ↓g_rgT, ↓g_rgL, ↓g_isi, ↓g_isiT, ↓g_tup, ↓g_lst, ↓g_ix, ↓g_sl, ↓g_rev, ↓g_app, ↓g_upper, ↓t_and, ↓t_or, ↓t_not, ↓t_ite, ↓t_bl, ↓t_cmp, ↓t_cmp2, ↓t_call, ↓t_callK, ↓t_bi, ↓t_isi, ↓t_isiT, ↓t_ix, ↓l_nil, ↓l_cons, ↓lt_nil, ↓lt_cons, ↓looks_nil, ↓looks_cons, ↓moves_nil, ↓moves_cons, ↓i_seq, ↓i_rng1, ↓i_rng2, ↓i_enum, ↓i_zip, ↓it_list, ↓it_tuple, ↓it_s, ↓gg_n, ↓gg_t, ↓gg_ix, ↓gs_nil, ↓gs_cons, ↓g_tupS, ↓g_lstS, ↓g_lstCS, ↓g_mkL, ↓g_mkC, ↓g_ixT, ↓g_ixL, ↓g_negK, ↓g_asCell, ↓p_nil, ↓p_one, ↓s_pass, ↓s_brk, ↓s_cont, ↓s_never, ↓s_expr, ↓s_ret, ↓s_retN, ↓s_asg, ↓s_par, ↓s_par3, ↓g_rgV, ↓g_rgVK, ↓g_revL, ↓g_revT, ↓s_aug, ↓s_iff, ↓b_add, ↓b_sub, ↓b_mulr, ↓b_mull, ↓b_fdiv, ↓b_mod, ↓b_addLS, ↓b_addTS, ↓q_eqI, ↓q_neI, ↓q_eqB, ↓q_neB, ↓q_lt, ↓q_le, ↓q_gt, ↓q_ge, ↓q_isN, ↓q_isB, ↓q_isnB, ↓isB_b, ↓q_isnN, ↓q_inB, ↓q_notinB, ↓f_lenT, ↓f_lenL, ↓f_int, ↓f_abs, ↓f_max2, ↓f_min2, ↓f_tupleL, ↓f_tupleT, ↓f_listL, ↓f_listT, ↓f_divmod, ↓f_all, ↓f_any, ↓f_sum, ↓a_0, ↓a_1, ↓a_2, ↓t_v, ↓go_cons, ↓go_nil, ↓go_bind, ↓go_pure, ↓go_lookM, ↓go_lookTM, ↓go_truB, ↓go_noneM, ↓go_moveM, ↓go_ite, ↓go_fin, startE, tyB, isNone, Tgs.len, Exs.len, List.map_cons, List.map_nil, List.length_cons, List.length_nil, List.cons_append, List.nil_append, List.take_length, if_true, Bool.not_false, Bool.not_true, List.set_cons_zero, List.set_cons_succ, Nat.reduceAdd, Nat.reduceSub, List.reduceReplicate, Bool.false_eq_true, if_false, reduceIte, and_self, Bool.true_eq_false, decide_true, decide_false]
  by_cases hx : 0 < x
  · simp (maxSteps := 2000000) (disch := first | omega | assumption | (simp only [List.length_map, List.length_append, List.length_cons, List.length_nil, List.length_take, List.length_drop, List.length_reverse, List.length_replicate]; omega)) only [hx, ↓u_look h, ↓u_set0 h, U_take, ↓w_nil, ↓w_cons, ↓g_comp, ↓g_comp2, ↓s_for, ↓s_while, ↓g_non, ↓g_bl, ↓g_int, ↓g_str, ↓g_v, ↓g_g, ↓g_get0, ↓g_gets, ↓g_neg, ↓g_bin, ↓g_cmp, ↓g_cmp2, ↓g_and, ↓g_or, ↓g_not, ↓g_ite, ↓g_call, ↓g_callK, ↓g_bi, ↓g_listC, ↓g_rgT, ↓g_rgL, ↓g_isi, ↓g_isiT, ↓g_tup, ↓g_lst, ↓g_ix, ↓g_sl, ↓g_rev, ↓g_app, ↓g_upper, ↓t_and, ↓t_or, ↓t_not, ↓t_ite, ↓t_bl, ↓t_cmp, ↓t_cmp2, ↓t_call, ↓t_callK, ↓t_bi, ↓t_isi, ↓t_isiT, ↓t_ix, ↓l_nil, ↓l_cons, ↓lt_nil, ↓lt_cons, ↓looks_nil, ↓looks_cons, ↓moves_nil, ↓moves_cons, ↓i_seq, ↓i_rng1, ↓i_rng2, ↓i_enum, ↓i_zip, ↓it_list, ↓it_tuple, ↓it_s, ↓gg_n, ↓gg_t, ↓gg_ix, ↓gs_nil, ↓gs_cons, ↓g_tupS, ↓g_lstS, ↓g_lstCS, ↓g_mkL, ↓g_mkC, ↓g_ixT, ↓g_ixL, ↓g_negK, ↓g_asCell, ↓p_nil, ↓p_one, ↓s_pass, ↓s_brk, ↓s_cont, ↓s_never, ↓s_expr, ↓s_ret, ↓s_retN, ↓s_asg, ↓s_par, ↓s_par3, ↓g_rgV, ↓g_rgVK, ↓g_revL, ↓g_revT, ↓s_aug, ↓s_iff, ↓b_add, ↓b_sub, ↓b_mulr, ↓b_mull, ↓b_fdiv, ↓b_mod, ↓b_addLS, ↓b_addTS, ↓q_eqI, ↓q_neI, ↓q_eqB, ↓q_neB, ↓q_lt, ↓q_le, ↓q_gt, ↓q_ge, ↓q_isN, ↓q_isB, ↓q_isnB, ↓isB_b, ↓q_isnN, ↓q_inB, ↓q_notinB, ↓f_lenT, ↓f_lenL, ↓f_int, ↓f_abs, ↓f_max2, ↓f_min2, ↓f_tupleL, ↓f_tupleT, ↓f_listL, ↓f_listT, ↓f_divmod, ↓f_all, ↓f_any, ↓f_sum, ↓a_0, ↓a_1, ↓a_2, ↓t_v, ↓go_cons, ↓go_nil, ↓go_bind, ↓go_pure, ↓go_lookM, ↓go_lookTM, ↓go_truB, ↓go_noneM, ↓go_moveM, ↓go_ite, ↓go_fin, startE, tyB, isNone, Tgs.len, Exs.len, List.map_cons, List.map_nil, List.length_cons, List.length_nil, List.cons_append, List.nil_append, List.take_length, if_true, Bool.not_false, Bool.not_true, List.set_cons_zero, List.set_cons_succ, Nat.reduceAdd, Nat.reduceSub, List.reduceReplicate, Bool.false_eq_true, if_false, reduceIte, and_self, Bool.true_eq_false, decide_true, decide_false]
    exact hq _ _ _ _ (Int.emod_nonneg _ (by omega)) (Int.emod_lt_of_pos _ (by omega))
  · have e1 : ∀ t : Int, 0 ≤ t % 2147483423 ∧ t % 2147483423 < 2147483423 := fun t => ⟨Int.emod_nonneg _ (by decide), Int.emod_lt_of_pos _ (by decide)⟩
    simp (maxSteps := 2000000) (disch := first | omega | assumption | (simp only [List.length_map, List.length_append, List.length_cons, List.length_nil, List.length_take, List.length_drop, List.length_reverse, List.length_replicate]; omega)) only [hx, ↓u_look h, ↓u_set0 h, ↓u_set1 h, ↓u_set2 h, U_take, ↓w_nil, ↓w_cons, ↓g_comp, ↓g_comp2, ↓s_for, ↓s_while, ↓g_non, ↓g_bl, ↓g_int, ↓g_str, ↓g_v, ↓g_g, ↓g_get0, ↓g_gets, ↓g_neg, ↓g_bin, ↓g_cmp, ↓g_cmp2, ↓g_and, ↓g_or, ↓g_not, ↓g_ite, ↓g_call, ↓g_callK, ↓g_bi, ↓g_listC, ↓g_rgT, ↓g_rgL, ↓g_isi, ↓g_isiT, ↓g_tup, ↓g_lst, ↓g_ix, ↓g_sl, ↓g_rev, ↓g_app, ↓g_upper, ↓t_and, ↓t_or, ↓t_not, ↓t_ite, ↓t_bl, ↓t_cmp, ↓t_cmp2, ↓t_call, ↓t_callK, ↓t_bi, ↓t_isi, ↓t_isiT, ↓t_ix, ↓l_nil, ↓l_cons, ↓lt_nil, ↓lt_cons, ↓looks_nil, ↓looks_cons, ↓moves_nil, ↓moves_cons, ↓i_seq, ↓i_rng1, ↓i_rng2, ↓i_enum, ↓i_zip, ↓it_list, ↓it_tuple, ↓it_s, ↓gg_n, ↓gg_t, ↓gg_ix, ↓gs_nil, ↓gs_cons, ↓g_tupS, ↓g_lstS, ↓g_lstCS, ↓g_mkL, ↓g_mkC, ↓g_ixT, ↓g_ixL, ↓g_negK, ↓g_asCell, ↓p_nil, ↓p_one, ↓s_pass, ↓s_brk, ↓s_cont, ↓s_never, ↓s_expr, ↓s_ret, ↓s_retN, ↓s_asg, ↓s_par, ↓s_par3, ↓g_rgV, ↓g_rgVK, ↓g_revL, ↓g_revT, ↓s_aug, ↓s_iff, ↓b_add, ↓b_sub, ↓b_mulr, ↓b_mull, ↓b_fdiv, ↓b_mod, ↓b_addLS, ↓b_addTS, ↓q_eqI, ↓q_neI, ↓q_eqB, ↓q_neB, ↓q_lt, ↓q_le, ↓q_gt, ↓q_ge, ↓q_isN, ↓q_isB, ↓q_isnB, ↓isB_b, ↓q_isnN, ↓q_inB, ↓q_notinB, ↓f_lenT, ↓f_lenL, ↓f_int, ↓f_abs, ↓f_max2, ↓f_min2, ↓f_tupleL, ↓f_tupleT, ↓f_listL, ↓f_listT, ↓f_divmod, ↓f_all, ↓f_any, ↓f_sum, ↓a_0, ↓a_1, ↓a_2, ↓t_v, ↓go_cons, ↓go_nil, ↓go_bind, ↓go_pure, ↓go_lookM, ↓go_lookTM, ↓go_truB, ↓go_noneM, ↓go_moveM, ↓go_ite, ↓go_fin, startE, tyB, isNone, Tgs.len, Exs.len, List.map_cons, List.map_nil, List.length_cons, List.length_nil, List.cons_append, List.nil_append, List.take_length, if_true, Bool.not_false, Bool.not_true, List.set_cons_zero, List.set_cons_succ, Nat.reduceAdd, Nat.reduceSub, List.reduceReplicate, Bool.false_eq_true, if_false, reduceIte, and_self, Bool.true_eq_false, decide_true, decide_false]
    exact hq _ _ _ _ (Int.emod_nonneg _ (by omega)) (Int.emod_lt_of_pos _ (by omega))
theorem s32 {c : Nat} {x y z : Int} {xs : List D} (hn : 2 ≤ n) (h : c < st.length) (h1 : 0 < xs.length) (h2 : xs.length < 1000000) (hq : ∀ e x' y' z', e ∈ xs → Q (.d e) (U st c x' y' z')) : Go (callN pr n 32 [.r c, .d (.tuple xs)]) (U st c x y z) Q := by
  obtain ⟨m, rfl⟩ : ∃ m, n = m + 1 := ⟨n - 1, by omega⟩
  rw [go_call (fi := f32) rfl rfl]
  simp (maxSteps := 2000000) (disch := first | omega | assumption | (simp only [List.length_map, List.length_append, List.length_cons, List.length_nil, List.length_take, List.length_drop, List.length_reverse, List.length_replicate]; omega)) only [f32, ↓w_nil, ↓w_cons, ↓g_comp, ↓g_comp2, ↓s_for, ↓s_while, ↓g_non, ↓g_bl, ↓g_int, ↓g_str, ↓g_v, ↓g_g, ↓g_get0, ↓g_gets, ↓g_neg, ↓g_bin, ↓g_cmp, ↓g_cmp2, ↓g_and, ↓g_or, ↓g_not, ↓g_ite, ↓g_call, ↓g_callK, ↓g_bi, ↓g_listC, ↓g_rgT, ↓g_rgL, ↓g_isi, ↓g_isiT, ↓g_tup, ↓g_lst, ↓g_ix, ↓g_sl, ↓g_rev, ↓g_app, ↓g_upper, ↓t_and, ↓t_or, ↓t_not, ↓t_ite, ↓t_bl, ↓t_cmp, ↓t_cmp2, ↓t_call, ↓t_callK, ↓t_bi, ↓t_isi, ↓t_isiT, ↓t_ix, ↓l_nil, ↓l_cons, ↓lt_nil, ↓lt_cons, ↓looks_nil, ↓looks_cons, ↓moves_nil, ↓moves_cons, ↓i_seq, ↓i_rng1, ↓i_rng2, ↓i_enum, ↓i_zip, ↓it_list, ↓it_tuple, ↓it_s, ↓gg_n, ↓gg_t, ↓gg_ix, ↓gs_nil, ↓gs_cons, ↓g_tupS, ↓g_lstS, ↓g_lstCS, ↓g_mkL, ↓g_mkC, ↓g_ixT, ↓g_ixL, ↓g_negK, ↓g_asCell, ↓p_nil, ↓p_one, ↓s_pass, ↓s_brk, ↓s_cont, ↓s_never, ↓s_expr, ↓s_ret, ↓s_retN, ↓s_asg, ↓s_par, ↓s_par3, ↓g_rgV, ↓g_rgVK, ↓g_revL, ↓g_revT, ↓s_aug, ↓s_iff, ↓b_add, ↓b_sub, ↓b_mulr, ↓b_mull, ↓b_fdiv, ↓b_mod, ↓b_addLS, ↓b_addTS, ↓q_eqI, ↓q_neI, ↓q_eqB, ↓q_neB, ↓q_lt, ↓q_le, ↓q_gt, ↓q_ge, ↓q_isN, ↓q_isB, ↓q_isnB, ↓isB_b, ↓q_isnN, ↓q_inB, ↓q_notinB, ↓f_lenT, ↓f_lenL, ↓f_int, ↓f_abs, ↓f_max2, ↓f_min2, ↓f_tupleL, ↓f_tupleT, ↓f_listL, ↓f_listT, ↓f_divmod, ↓f_all, ↓f_any, ↓f_sum, ↓a_0, ↓a_1, ↓a_2, ↓t_v, ↓go_cons, ↓go_nil, ↓go_bind, ↓go_pure, ↓go_lookM, ↓go_lookTM, ↓go_truB, ↓go_noneM, ↓go_moveM, ↓go_ite, ↓go_fin, startE, tyB, isNone, Tgs.len, Exs.len, List.map_cons, List.map_nil, List.length_cons, List.length_nil, List.cons_append, List.nil_append, List.take_length, if_true, Bool.not_false, Bool.not_true, List.set_cons_zero, List.set_cons_succ, Nat.reduceAdd, Nat.reduceSub, List.reduceReplicate, Bool.false_eq_true, if_false, reduceIte, and_self, Bool.true_eq_false, decide_true, decide_false]
  refine s31 (by omega) h (by omega) (by omega) fun r x' y' z' r0 r1 => ?_
  obtain ⟨e, he, hm⟩ := at_i (l := xs) r0 r1
  simp (maxSteps := 2000000) (disch := first | omega | assumption | (simp only [List.length_map, List.length_append, List.length_cons, List.length_nil, List.length_take, List.length_drop, List.length_reverse, List.length_replicate]; omega)) only [↓w_nil, ↓w_cons, ↓g_comp, ↓g_comp2, ↓s_for, ↓s_while, ↓g_non, ↓g_bl, ↓g_int, ↓g_str, ↓g_v, ↓g_g, ↓g_get0, ↓g_gets, ↓g_neg, ↓g_bin, ↓g_cmp, ↓g_cmp2, ↓g_and, ↓g_or, ↓g_not, ↓g_ite, ↓g_call, ↓g_callK, ↓g_bi, ↓g_listC, ↓g_rgT, ↓g_rgL, ↓g_isi, ↓g_isiT, ↓g_tup, ↓g_lst, ↓g_ix, ↓g_sl, ↓g_rev, ↓g_app, ↓g_upper, ↓t_and, ↓t_or, ↓t_not, ↓t_ite, ↓t_bl, ↓t_cmp, ↓t_cmp2, ↓t_call, ↓t_callK, ↓t_bi, ↓t_isi, ↓t_isiT, ↓t_ix, ↓l_nil, ↓l_cons, ↓lt_nil, ↓lt_cons, ↓looks_nil, ↓looks_cons, ↓moves_nil, ↓moves_cons, ↓i_seq, ↓i_rng1, ↓i_rng2, ↓i_enum, ↓i_zip, ↓it_list, ↓it_tuple, ↓it_s, ↓gg_n, ↓gg_t, ↓gg_ix, ↓gs_nil, ↓gs_cons, ↓g_tupS, ↓g_lstS, ↓g_lstCS, ↓g_mkL, ↓g_mkC, ↓g_ixT, ↓g_ixL, ↓g_negK, ↓g_asCell, ↓p_nil, ↓p_one, ↓s_pass, ↓s_brk, ↓s_cont, ↓s_never, ↓s_expr, ↓s_ret, ↓s_retN, ↓s_asg, ↓s_par, ↓s_par3, ↓g_rgV, ↓g_rgVK, ↓g_revL, ↓g_revT, ↓s_aug, ↓s_iff, ↓b_add, ↓b_sub, ↓b_mulr, ↓b_mull, ↓b_fdiv, ↓b_mod, ↓b_addLS, ↓b_addTS, ↓q_eqI, ↓q_neI, ↓q_eqB, ↓q_neB, ↓q_lt, ↓q_le, ↓q_gt, ↓q_ge, ↓q_isN, ↓q_isB, ↓q_isnB, ↓isB_b, ↓q_isnN, ↓q_inB, ↓q_notinB, ↓f_lenT, ↓f_lenL, ↓f_int, ↓f_abs, ↓f_max2, ↓f_min2, ↓f_tupleL, ↓f_tupleT, ↓f_listL, ↓f_listT, ↓f_divmod, ↓f_all, ↓f_any, ↓f_sum, ↓a_0, ↓a_1, ↓a_2, ↓t_v, ↓go_cons, ↓go_nil, ↓go_bind, ↓go_pure, ↓go_lookM, ↓go_lookTM, ↓go_truB, ↓go_noneM, ↓go_moveM, ↓go_ite, ↓go_fin, startE, tyB, isNone, Tgs.len, Exs.len, List.map_cons, List.map_nil, List.length_cons, List.length_nil, List.cons_append, List.nil_append, List.take_length, if_true, Bool.not_false, Bool.not_true, List.set_cons_zero, List.set_cons_succ, Nat.reduceAdd, Nat.reduceSub, List.reduceReplicate, Bool.false_eq_true, if_false, reduceIte, and_self, Bool.true_eq_false, decide_true, decide_false]
  rw [ex_of he, U_take]
  exact hq _ _ _ _ hm
theorem s32L {c : Nat} {x y z : Int} {xs : List D} (hn : 2 ≤ n) (h : c < st.length) (h1 : 0 < xs.length) (h2 : xs.length < 1000000) (hq : ∀ e x' y' z', e ∈ xs → Q (.d e) (U st c x' y' z')) : Go (callN pr n 32 [.r c, .d (.list xs)]) (U st c x y z) Q := by
  obtain ⟨m, rfl⟩ : ∃ m, n = m + 1 := ⟨n - 1, by omega⟩
  rw [go_call (fi := f32) rfl rfl]
  simp (maxSteps := 2000000) (disch := first | omega | assumption | (simp only [List.length_map, List.length_append, List.length_cons, List.length_nil, List.length_take, List.length_drop, List.length_reverse, List.length_replicate]; omega)) only [f32, ↓w_nil, ↓w_cons, ↓g_comp, ↓g_comp2, ↓s_for, ↓s_while, ↓g_non, ↓g_bl, ↓g_int, ↓g_str, ↓g_v, ↓g_g, ↓g_get0, ↓g_gets, ↓g_neg, ↓g_bin, ↓g_cmp, ↓g_cmp2, ↓g_and, ↓g_or, ↓g_not, ↓g_ite, ↓g_call, ↓g_callK, ↓g_bi, ↓g_listC, ↓g_rgT, ↓g_rgL, ↓g_isi, ↓g_isiT, ↓g_tup, ↓g_lst, ↓g_ix, ↓g_sl, ↓g_rev, ↓g_app, ↓g_upper, ↓t_and, ↓t_or, ↓t_not, ↓t_ite, ↓t_bl, ↓t_cmp, ↓t_cmp2, ↓t_call, ↓t_callK, ↓t_bi, ↓t_isi, ↓t_isiT, ↓t_ix, ↓l_nil, ↓l_cons, ↓lt_nil, ↓lt_cons, ↓looks_nil, ↓looks_cons, ↓moves_nil, ↓moves_cons, ↓i_seq, ↓i_rng1, ↓i_rng2, ↓i_enum, ↓i_zip, ↓it_list, ↓it_tuple, ↓it_s, ↓gg_n, ↓gg_t, ↓gg_ix, ↓gs_nil, ↓gs_cons, ↓g_tupS, ↓g_lstS, ↓g_lstCS, ↓g_mkL, ↓g_mkC, ↓g_ixT, ↓g_ixL, ↓g_negK, ↓g_asCell, ↓p_nil, ↓p_one, ↓s_pass, ↓s_brk, ↓s_cont, ↓s_never, ↓s_expr, ↓s_ret, ↓s_retN, ↓s_asg, ↓s_par, ↓s_par3, ↓g_rgV, ↓g_rgVK, ↓g_revL, ↓g_revT, ↓s_aug, ↓s_iff, ↓b_add, ↓b_sub, ↓b_mulr, ↓b_mull, ↓b_fdiv, ↓b_mod, ↓b_addLS, ↓b_addTS, ↓q_eqI, ↓q_neI, ↓q_eqB, ↓q_neB, ↓q_lt, ↓q_le, ↓q_gt, ↓q_ge, ↓q_isN, ↓q_isB, ↓q_isnB, ↓isB_b, ↓q_isnN, ↓q_inB, ↓q_notinB, ↓f_lenT, ↓f_lenL, ↓f_int, ↓f_abs, ↓f_max2, ↓f_min2, ↓f_tupleL, ↓f_tupleT, ↓f_listL, ↓f_listT, ↓f_divmod, ↓f_all, ↓f_any, ↓f_sum, ↓a_0, ↓a_1, ↓a_2, ↓t_v, ↓go_cons, ↓go_nil, ↓go_bind, ↓go_pure, ↓go_lookM, ↓go_lookTM, ↓go_truB, ↓go_noneM, ↓go_moveM, ↓go_ite, ↓go_fin, startE, tyB, isNone, Tgs.len, Exs.len, List.map_cons, List.map_nil, List.length_cons, List.length_nil, List.cons_append, List.nil_append, List.take_length, if_true, Bool.not_false, Bool.not_true, List.set_cons_zero, List.set_cons_succ, Nat.reduceAdd, Nat.reduceSub, List.reduceReplicate, Bool.false_eq_true, if_false, reduceIte, and_self, Bool.true_eq_false, decide_true, decide_false]
  refine s31 (by omega) h (by omega) (by omega) fun r x' y' z' r0 r1 => ?_
  obtain ⟨e, he, hm⟩ := at_i (l := xs) r0 r1
  simp (maxSteps := 2000000) (disch := first | omega | assumption | (simp only [List.length_map, List.length_append, List.length_cons, List.length_nil, List.length_take, List.length_drop, List.length_reverse, List.length_replicate]; omega)) only [↓w_nil, ↓w_cons, ↓g_comp, ↓g_comp2, ↓s_for, ↓s_while, ↓g_non, ↓g_bl, ↓g_int, ↓g_str, ↓g_v, ↓g_g, ↓g_get0, ↓g_gets, ↓g_neg, ↓g_bin, ↓g_cmp, ↓g_cmp2, ↓g_and, ↓g_or, ↓g_not, ↓g_ite, ↓g_call, ↓g_callK, ↓g_bi, ↓g_listC, ↓g_rgT, ↓g_rgL, ↓g_isi, ↓g_isiT, ↓g_tup, ↓g_lst, ↓g_ix, ↓g_sl, ↓g_rev, ↓g_app, ↓g_upper, ↓t_and, ↓t_or, ↓t_not, ↓t_ite, ↓t_bl, ↓t_cmp, ↓t_cmp2, ↓t_call, ↓t_callK, ↓t_bi, ↓t_isi, ↓t_isiT, ↓t_ix, ↓l_nil, ↓l_cons, ↓lt_nil, ↓lt_cons, ↓looks_nil, ↓looks_cons, ↓moves_nil, ↓moves_cons, ↓i_seq, ↓i_rng1, ↓i_rng2, ↓i_enum, ↓i_zip, ↓it_list, ↓it_tuple, ↓it_s, ↓gg_n, ↓gg_t, ↓gg_ix, ↓gs_nil, ↓gs_cons, ↓g_tupS, ↓g_lstS, ↓g_lstCS, ↓g_mkL, ↓g_mkC, ↓g_ixT, ↓g_ixL, ↓g_negK, ↓g_asCell, ↓p_nil, ↓p_one, ↓s_pass, ↓s_brk, ↓s_cont, ↓s_never, ↓s_expr, ↓s_ret, ↓s_retN, ↓s_asg, ↓s_par, ↓s_par3, ↓g_rgV, ↓g_rgVK, ↓g_revL, ↓g_revT, ↓s_aug, ↓s_iff, ↓b_add, ↓b_sub, ↓b_mulr, ↓b_mull, ↓b_fdiv, ↓b_mod, ↓b_addLS, ↓b_addTS, ↓q_eqI, ↓q_neI, ↓q_eqB, ↓q_neB, ↓q_lt, ↓q_le, ↓q_gt, ↓q_ge, ↓q_isN, ↓q_isB, ↓q_isnB, ↓isB_b, ↓q_isnN, ↓q_inB, ↓q_notinB, ↓f_lenT, ↓f_lenL, ↓f_int, ↓f_abs, ↓f_max2, ↓f_min2, ↓f_tupleL, ↓f_tupleT, ↓f_listL, ↓f_listT, ↓f_divmod, ↓f_all, ↓f_any, ↓f_sum, ↓a_0, ↓a_1, ↓a_2, ↓t_v, ↓go_cons, ↓go_nil, ↓go_bind, ↓go_pure, ↓go_lookM, ↓go_lookTM, ↓go_truB, ↓go_noneM, ↓go_moveM, ↓go_ite, ↓go_fin, startE, tyB, isNone, Tgs.len, Exs.len, List.map_cons, List.map_nil, List.length_cons, List.length_nil, List.cons_append, List.nil_append, List.take_length, if_true, Bool.not_false, Bool.not_true, List.set_cons_zero, List.set_cons_succ, Nat.reduceAdd, Nat.reduceSub, List.reduceReplicate, Bool.false_eq_true, if_false, reduceIte, and_self, Bool.true_eq_false, decide_true, decide_false]
  rw [ex_of he, U_take]
  exact hq _ _ _ _ hm
theorem s35 (hn : 1 ≤ n) {p q : Bool} : Go (callN pr n 35 [.d (.bool p), .d (.bool q)]) st Q ↔ Q (.d (.bool (p == q))) st := by
  obtain ⟨m, rfl⟩ : ∃ m, n = m + 1 := ⟨n - 1, by omega⟩
  rw [go_call (fi := f35) rfl rfl]
  simp (maxSteps := 2000000) (disch := first | omega | assumption | (simp only [List.length_map, List.length_append, List.length_cons, List.length_nil, List.length_take, List.length_drop, List.length_reverse, List.length_replicate]; omega)) only [f35, List.any_cons, List.any_nil, Bool.or_false, Bool.or_self, BEq.rfl, ↓w_nil, ↓w_cons, ↓g_comp, ↓g_comp2, ↓s_for, ↓s_while, ↓g_non, ↓g_bl, ↓g_int, ↓g_str, ↓g_v, ↓g_g, ↓g_get0, ↓g_gets, ↓g_neg, ↓g_bin, ↓g_cmp, ↓g_cmp2, ↓g_and, ↓g_or, ↓g_not, ↓g_ite, ↓g_call, ↓g_callK, ↓g_bi, ↓g_listC, ↓g_rgT, ↓g_rgL, ↓g_isi, ↓g_isiT, ↓g_tup, ↓g_lst, ↓g_ix, ↓g_sl, ↓g_rev, ↓g_app, ↓g_upper, ↓t_and, ↓t_or, ↓t_not, ↓t_ite, ↓t_bl, ↓t_cmp, ↓t_cmp2, ↓t_call, ↓t_callK, ↓t_bi, ↓t_isi, ↓t_isiT, ↓t_ix, ↓l_nil, ↓l_cons, ↓lt_nil, ↓lt_cons, ↓looks_nil, ↓looks_cons, ↓moves_nil, ↓moves_cons, ↓i_seq, ↓i_rng1, ↓i_rng2, ↓i_enum, ↓i_zip, ↓it_list, ↓it_tuple, ↓it_s, ↓gg_n, ↓gg_t, ↓gg_ix, ↓gs_nil, ↓gs_cons, ↓g_tupS, ↓g_lstS, ↓g_lstCS, ↓g_mkL, ↓g_mkC, ↓g_ixT, ↓g_ixL, ↓g_negK, ↓g_asCell, ↓p_nil, ↓p_one, ↓s_pass, ↓s_brk, ↓s_cont, ↓s_never, ↓s_expr, ↓s_ret, ↓s_retN, ↓s_asg, ↓s_par, ↓s_par3, ↓g_rgV, ↓g_rgVK, ↓g_revL, ↓g_revT, ↓s_aug, ↓s_iff, ↓b_add, ↓b_sub, ↓b_mulr, ↓b_mull, ↓b_fdiv, ↓b_mod, ↓b_addLS, ↓b_addTS, ↓q_eqI, ↓q_neI, ↓q_eqB, ↓q_neB, ↓q_lt, ↓q_le, ↓q_gt, ↓q_ge, ↓q_isN, ↓q_isB, ↓q_isnB, ↓isB_b, ↓q_isnN, ↓q_inB, ↓q_notinB, ↓f_lenT, ↓f_lenL, ↓f_int, ↓f_abs, ↓f_max2, ↓f_min2, ↓f_tupleL, ↓f_tupleT, ↓f_listL, ↓f_listT, ↓f_divmod, ↓f_all, ↓f_any, ↓f_sum, ↓a_0, ↓a_1, ↓a_2, ↓t_v, ↓go_cons, ↓go_nil, ↓go_bind, ↓go_pure, ↓go_lookM, ↓go_lookTM, ↓go_truB, ↓go_noneM, ↓go_moveM, ↓go_ite, ↓go_fin, startE, tyB, isNone, Tgs.len, Exs.len, List.map_cons, List.map_nil, List.length_cons, List.length_nil, List.cons_append, List.nil_append, List.take_length, if_true, Bool.not_false, Bool.not_true, List.set_cons_zero, List.set_cons_succ, Nat.reduceAdd, Nat.reduceSub, List.reduceReplicate, Bool.false_eq_true, if_false, reduceIte, and_self, Bool.true_eq_false, decide_true, decide_false]
def trS (a b : Int) (best : Int) (p : Int × Int) : Int := if a ≤ b - 1 - (b - 1) % p.1 then (if b - 1 - (b - 1) % p.1 + p.2 > best then b - 1 - (b - 1) % p.1 + p.2 else best) else best
def tr (pl : Pl) (a b : Int) : Int := pl.foldl (trS a b) (b - 1)
theorem s37 (hn : 1 ≤ n) {a b : Int} {pl : Pl} (h : Pok pl) (hq : Q (.d (.int (tr pl a b))) st) : Go (callN pr n 37 [.d (plD pl), .d (.tuple [.int a, .int b])]) st Q := by
  obtain ⟨m, rfl⟩ : ∃ m, n = m + 1 := ⟨n - 1, by omega⟩
  rw [go_call (fi := f37) rfl rfl]
  simp (maxSteps := 2000000) (disch := first | omega | assumption | (simp only [List.length_map, List.length_append, List.length_cons, List.length_nil, List.length_take, List.length_drop, List.length_reverse, List.length_replicate]; omega)) only [f37, plD, ↓w_nil, ↓w_cons, ↓g_comp, ↓g_comp2, ↓s_for, ↓s_while, ↓g_non, ↓g_bl, ↓g_int, ↓g_str, ↓g_v, ↓g_g, ↓g_get0, ↓g_gets, ↓g_neg, ↓g_bin, ↓g_cmp, ↓g_cmp2, ↓g_and, ↓g_or, ↓g_not, ↓g_ite, ↓g_call, ↓g_callK, ↓g_bi, ↓g_listC, ↓g_rgT, ↓g_rgL, ↓g_isi, ↓g_isiT, ↓g_tup, ↓g_lst, ↓g_ix, ↓g_sl, ↓g_rev, ↓g_app, ↓g_upper, ↓t_and, ↓t_or, ↓t_not, ↓t_ite, ↓t_bl, ↓t_cmp, ↓t_cmp2, ↓t_call, ↓t_callK, ↓t_bi, ↓t_isi, ↓t_isiT, ↓t_ix, ↓l_nil, ↓l_cons, ↓lt_nil, ↓lt_cons, ↓looks_nil, ↓looks_cons, ↓moves_nil, ↓moves_cons, ↓i_seq, ↓i_rng1, ↓i_rng2, ↓i_enum, ↓i_zip, ↓it_list, ↓it_tuple, ↓it_s, ↓gg_n, ↓gg_t, ↓gg_ix, ↓gs_nil, ↓gs_cons, ↓g_tupS, ↓g_lstS, ↓g_lstCS, ↓g_mkL, ↓g_mkC, ↓g_ixT, ↓g_ixL, ↓g_negK, ↓g_asCell, ↓p_nil, ↓p_one, ↓s_pass, ↓s_brk, ↓s_cont, ↓s_never, ↓s_expr, ↓s_ret, ↓s_retN, ↓s_asg, ↓s_par, ↓s_par3, ↓g_rgV, ↓g_rgVK, ↓g_revL, ↓g_revT, ↓s_aug, ↓s_iff, ↓b_add, ↓b_sub, ↓b_mulr, ↓b_mull, ↓b_fdiv, ↓b_mod, ↓b_addLS, ↓b_addTS, ↓q_eqI, ↓q_neI, ↓q_eqB, ↓q_neB, ↓q_lt, ↓q_le, ↓q_gt, ↓q_ge, ↓q_isN, ↓q_isB, ↓q_isnB, ↓isB_b, ↓q_isnN, ↓q_inB, ↓q_notinB, ↓f_lenT, ↓f_lenL, ↓f_int, ↓f_abs, ↓f_max2, ↓f_min2, ↓f_tupleL, ↓f_tupleT, ↓f_listL, ↓f_listT, ↓f_divmod, ↓f_all, ↓f_any, ↓f_sum, ↓a_0, ↓a_1, ↓a_2, ↓t_v, ↓go_cons, ↓go_nil, ↓go_bind, ↓go_pure, ↓go_lookM, ↓go_lookTM, ↓go_truB, ↓go_noneM, ↓go_moveM, ↓go_ite, ↓go_fin, startE, tyB, isNone, Tgs.len, Exs.len, List.map_cons, List.map_nil, List.length_cons, List.length_nil, List.cons_append, List.nil_append, List.take_length, if_true, Bool.not_false, Bool.not_true, List.set_cons_zero, List.set_cons_succ, Nat.reduceAdd, Nat.reduceSub, List.reduceReplicate, Bool.false_eq_true, if_false, reduceIte, and_self, Bool.true_eq_false, decide_true, decide_false]
  refine go_forL (fun xs ρ s => ∃ (l : Pl) (best : Int) (x3 x4 x5 : Option Val), xs = l.map pD ∧ (∀ p ∈ l, 1 ≤ p.1) ∧ ρ = [some (.d (plD pl)), some (.d (.tuple [.int a, .int b])), some (.d (.int best)), x3, x4, x5] ∧ s = st ∧ l.foldl (trS a b) best = tr pl a b) ?_ ?_ _ _ _ ⟨pl, _, _, _, _, rfl, fun p hp => (h.all p hp).1, rfl, rfl, rfl⟩
  · rintro x r ρ s ⟨l, best, x3, x4, x5, hl, hp, rfl, rfl, hf⟩
    cases l with
    | nil => cases hl
    | cons p l =>
      rw [List.map_cons] at hl
      injection hl with e1 e2
      subst e1 e2
      have hp1 := hp p List.mem_cons_self
      simp (maxSteps := 2000000) (disch := first | omega | assumption | (simp only [List.length_map, List.length_append, List.length_cons, List.length_nil, List.length_take, List.length_drop, List.length_reverse, List.length_replicate]; omega)) only [pD, ↓w_nil, ↓w_cons, ↓g_comp, ↓g_comp2, ↓s_for, ↓s_while, ↓g_non, ↓g_bl, ↓g_int, ↓g_str, ↓g_v, ↓g_g, ↓g_get0, ↓g_gets, ↓g_neg, ↓g_bin, ↓g_cmp, ↓g_cmp2, ↓g_and, ↓g_or, ↓g_not, ↓g_ite, ↓g_call, ↓g_callK, ↓g_bi, ↓g_listC, ↓g_rgT, ↓g_rgL, ↓g_isi, ↓g_isiT, ↓g_tup, ↓g_lst, ↓g_ix, ↓g_sl, ↓g_rev, ↓g_app, ↓g_upper, ↓t_and, ↓t_or, ↓t_not, ↓t_ite, ↓t_bl, ↓t_cmp, ↓t_cmp2, ↓t_call, ↓t_callK, ↓t_bi, ↓t_isi, ↓t_isiT, ↓t_ix, ↓l_nil, ↓l_cons, ↓lt_nil, ↓lt_cons, ↓looks_nil, ↓looks_cons, ↓moves_nil, ↓moves_cons, ↓i_seq, ↓i_rng1, ↓i_rng2, ↓i_enum, ↓i_zip, ↓it_list, ↓it_tuple, ↓it_s, ↓gg_n, ↓gg_t, ↓gg_ix, ↓gs_nil, ↓gs_cons, ↓g_tupS, ↓g_lstS, ↓g_lstCS, ↓g_mkL, ↓g_mkC, ↓g_ixT, ↓g_ixL, ↓g_negK, ↓g_asCell, ↓p_nil, ↓p_one, ↓s_pass, ↓s_brk, ↓s_cont, ↓s_never, ↓s_expr, ↓s_ret, ↓s_retN, ↓s_asg, ↓s_par, ↓s_par3, ↓g_rgV, ↓g_rgVK, ↓g_revL, ↓g_revT, ↓s_aug, ↓s_iff, ↓b_add, ↓b_sub, ↓b_mulr, ↓b_mull, ↓b_fdiv, ↓b_mod, ↓b_addLS, ↓b_addTS, ↓q_eqI, ↓q_neI, ↓q_eqB, ↓q_neB, ↓q_lt, ↓q_le, ↓q_gt, ↓q_ge, ↓q_isN, ↓q_isB, ↓q_isnB, ↓isB_b, ↓q_isnN, ↓q_inB, ↓q_notinB, ↓f_lenT, ↓f_lenL, ↓f_int, ↓f_abs, ↓f_max2, ↓f_min2, ↓f_tupleL, ↓f_tupleT, ↓f_listL, ↓f_listT, ↓f_divmod, ↓f_all, ↓f_any, ↓f_sum, ↓a_0, ↓a_1, ↓a_2, ↓t_v, ↓go_cons, ↓go_nil, ↓go_bind, ↓go_pure, ↓go_lookM, ↓go_lookTM, ↓go_truB, ↓go_noneM, ↓go_moveM, ↓go_ite, ↓go_fin, startE, tyB, isNone, Tgs.len, Exs.len, List.map_cons, List.map_nil, List.length_cons, List.length_nil, List.cons_append, List.nil_append, List.take_length, if_true, Bool.not_false, Bool.not_true, List.set_cons_zero, List.set_cons_succ, Nat.reduceAdd, Nat.reduceSub, List.reduceReplicate, Bool.false_eq_true, if_false, reduceIte, and_self, Bool.true_eq_false, decide_true, decide_false]
      have fin : ∀ (b' : Int) (x3 x4 x5 : Option Val), trS a b best p = b' → ∃ (l' : Pl) (best : Int) (y3 y4 y5 : Option Val), l.map pD = l'.map pD ∧ (∀ p ∈ l', 1 ≤ p.1) ∧ [some (.d (plD pl)), some (.d (.tuple [.int a, .int b])), some (.d (.int b')), x3, x4, x5] = [some (.d (plD pl)), some (.d (.tuple [.int a, .int b])), some (.d (.int best)), y3, y4, y5] ∧ s = s ∧ l'.foldl (trS a b) best = tr pl a b := fun b' x3 x4 x5 e => ⟨l, b', x3, x4, x5, rfl, fun p hp' => hp p (List.mem_cons_of_mem _ hp'), rfl, rfl, by rw [← hf, List.foldl_cons, e]⟩
      unfold trS at fin
      by_cases hc : a ≤ b - 1 - (b - 1) % p.1
      · simp (maxSteps := 2000000) (disch := first | omega | assumption | (simp only [List.length_map, List.length_append, List.length_cons, List.length_nil, List.length_take, List.length_drop, List.length_reverse, List.length_replicate]; omega)) only [hc, ↓w_nil, ↓w_cons, ↓g_comp, ↓g_comp2, ↓s_for, ↓s_while, ↓g_non, ↓g_bl, ↓g_int, ↓g_str, ↓g_v, ↓g_g, ↓g_get0, ↓g_gets, ↓g_neg, ↓g_bin, ↓g_cmp, ↓g_cmp2, ↓g_and, ↓g_or, ↓g_not, ↓g_ite, ↓g_call, ↓g_callK, ↓g_bi, ↓g_listC, ↓g_rgT, ↓g_rgL, ↓g_isi, ↓g_isiT, ↓g_tup, ↓g_lst, ↓g_ix, ↓g_sl, ↓g_rev, ↓g_app, ↓g_upper, ↓t_and, ↓t_or, ↓t_not, ↓t_ite, ↓t_bl, ↓t_cmp, ↓t_cmp2, ↓t_call, ↓t_callK, ↓t_bi, ↓t_isi, ↓t_isiT, ↓t_ix, ↓l_nil, ↓l_cons, ↓lt_nil, ↓lt_cons, ↓looks_nil, ↓looks_cons, ↓moves_nil, ↓moves_cons, ↓i_seq, ↓i_rng1, ↓i_rng2, ↓i_enum, ↓i_zip, ↓it_list, ↓it_tuple, ↓it_s, ↓gg_n, ↓gg_t, ↓gg_ix, ↓gs_nil, ↓gs_cons, ↓g_tupS, ↓g_lstS, ↓g_lstCS, ↓g_mkL, ↓g_mkC, ↓g_ixT, ↓g_ixL, ↓g_negK, ↓g_asCell, ↓p_nil, ↓p_one, ↓s_pass, ↓s_brk, ↓s_cont, ↓s_never, ↓s_expr, ↓s_ret, ↓s_retN, ↓s_asg, ↓s_par, ↓s_par3, ↓g_rgV, ↓g_rgVK, ↓g_revL, ↓g_revT, ↓s_aug, ↓s_iff, ↓b_add, ↓b_sub, ↓b_mulr, ↓b_mull, ↓b_fdiv, ↓b_mod, ↓b_addLS, ↓b_addTS, ↓q_eqI, ↓q_neI, ↓q_eqB, ↓q_neB, ↓q_lt, ↓q_le, ↓q_gt, ↓q_ge, ↓q_isN, ↓q_isB, ↓q_isnB, ↓isB_b, ↓q_isnN, ↓q_inB, ↓q_notinB, ↓f_lenT, ↓f_lenL, ↓f_int, ↓f_abs, ↓f_max2, ↓f_min2, ↓f_tupleL, ↓f_tupleT, ↓f_listL, ↓f_listT, ↓f_divmod, ↓f_all, ↓f_any, ↓f_sum, ↓a_0, ↓a_1, ↓a_2, ↓t_v, ↓go_cons, ↓go_nil, ↓go_bind, ↓go_pure, ↓go_lookM, ↓go_lookTM, ↓go_truB, ↓go_noneM, ↓go_moveM, ↓go_ite, ↓go_fin, startE, tyB, isNone, Tgs.len, Exs.len, List.map_cons, List.map_nil, List.length_cons, List.length_nil, List.cons_append, List.nil_append, List.take_length, if_true, Bool.not_false, Bool.not_true, List.set_cons_zero, List.set_cons_succ, Nat.reduceAdd, Nat.reduceSub, List.reduceReplicate, Bool.false_eq_true, if_false, reduceIte, and_self, Bool.true_eq_false, decide_true, decide_false] at fin ⊢
        exact fin _ _ _ _ rfl
      · simp (maxSteps := 2000000) (disch := first | omega | assumption | (simp only [List.length_map, List.length_append, List.length_cons, List.length_nil, List.length_take, List.length_drop, List.length_reverse, List.length_replicate]; omega)) only [hc, ↓w_nil, ↓w_cons, ↓g_comp, ↓g_comp2, ↓s_for, ↓s_while, ↓g_non, ↓g_bl, ↓g_int, ↓g_str, ↓g_v, ↓g_g, ↓g_get0, ↓g_gets, ↓g_neg, ↓g_bin, ↓g_cmp, ↓g_cmp2, ↓g_and, ↓g_or, ↓g_not, ↓g_ite, ↓g_call, ↓g_callK, ↓g_bi, ↓g_listC, ↓g_rgT, ↓g_rgL, ↓g_isi, ↓g_isiT, ↓g_tup, ↓g_lst, ↓g_ix, ↓g_sl, ↓g_rev, ↓g_app, ↓g_upper, ↓t_and, ↓t_or, ↓t_not, ↓t_ite, ↓t_bl, ↓t_cmp, ↓t_cmp2, ↓t_call, ↓t_callK, ↓t_bi, ↓t_isi, ↓t_isiT, ↓t_ix, ↓l_nil, ↓l_cons, ↓lt_nil, ↓lt_cons, ↓looks_nil, ↓looks_cons, ↓moves_nil, ↓moves_cons, ↓i_seq, ↓i_rng1, ↓i_rng2, ↓i_enum, ↓i_zip, ↓it_list, ↓it_tuple, ↓it_s, ↓gg_n, ↓gg_t, ↓gg_ix, ↓gs_nil, ↓gs_cons, ↓g_tupS, ↓g_lstS, ↓g_lstCS, ↓g_mkL, ↓g_mkC, ↓g_ixT, ↓g_ixL, ↓g_negK, ↓g_asCell, ↓p_nil, ↓p_one, ↓s_pass, ↓s_brk, ↓s_cont, ↓s_never, ↓s_expr, ↓s_ret, ↓s_retN, ↓s_asg, ↓s_par, ↓s_par3, ↓g_rgV, ↓g_rgVK, ↓g_revL, ↓g_revT, ↓s_aug, ↓s_iff, ↓b_add, ↓b_sub, ↓b_mulr, ↓b_mull, ↓b_fdiv, ↓b_mod, ↓b_addLS, ↓b_addTS, ↓q_eqI, ↓q_neI, ↓q_eqB, ↓q_neB, ↓q_lt, ↓q_le, ↓q_gt, ↓q_ge, ↓q_isN, ↓q_isB, ↓q_isnB, ↓isB_b, ↓q_isnN, ↓q_inB, ↓q_notinB, ↓f_lenT, ↓f_lenL, ↓f_int, ↓f_abs, ↓f_max2, ↓f_min2, ↓f_tupleL, ↓f_tupleT, ↓f_listL, ↓f_listT, ↓f_divmod, ↓f_all, ↓f_any, ↓f_sum, ↓a_0, ↓a_1, ↓a_2, ↓t_v, ↓go_cons, ↓go_nil, ↓go_bind, ↓go_pure, ↓go_lookM, ↓go_lookTM, ↓go_truB, ↓go_noneM, ↓go_moveM, ↓go_ite, ↓go_fin, startE, tyB, isNone, Tgs.len, Exs.len, List.map_cons, List.map_nil, List.length_cons, List.length_nil, List.cons_append, List.nil_append, List.take_length, if_true, Bool.not_false, Bool.not_true, List.set_cons_zero, List.set_cons_succ, Nat.reduceAdd, Nat.reduceSub, List.reduceReplicate, Bool.false_eq_true, if_false, reduceIte, and_self, Bool.true_eq_false, decide_true, decide_false] at fin ⊢
        exact fin _ _ _ _ rfl
  · rintro ρ s ⟨l, best, x3, x4, x5, hl, hp, rfl, rfl, hf⟩
    cases l with
    | cons p l => cases hl
    | nil =>
      simp (maxSteps := 2000000) (disch := first | omega | assumption | (simp only [List.length_map, List.length_append, List.length_cons, List.length_nil, List.length_take, List.length_drop, List.length_reverse, List.length_replicate]; omega)) only [↓w_nil, ↓w_cons, ↓g_comp, ↓g_comp2, ↓s_for, ↓s_while, ↓g_non, ↓g_bl, ↓g_int, ↓g_str, ↓g_v, ↓g_g, ↓g_get0, ↓g_gets, ↓g_neg, ↓g_bin, ↓g_cmp, ↓g_cmp2, ↓g_and, ↓g_or, ↓g_not, ↓g_ite, ↓g_call, ↓g_callK, ↓g_bi, ↓g_listC, ↓g_rgT, ↓g_rgL, ↓g_isi, ↓g_isiT, ↓g_tup, ↓g_lst, ↓g_ix, ↓g_sl, ↓g_rev, ↓g_app, ↓g_upper, ↓t_and, ↓t_or, ↓t_not, ↓t_ite, ↓t_bl, ↓t_cmp, ↓t_cmp2, ↓t_call, ↓t_callK, ↓t_bi, ↓t_isi, ↓t_isiT, ↓t_ix, ↓l_nil, ↓l_cons, ↓lt_nil, ↓lt_cons, ↓looks_nil, ↓looks_cons, ↓moves_nil, ↓moves_cons, ↓i_seq, ↓i_rng1, ↓i_rng2, ↓i_enum, ↓i_zip, ↓it_list, ↓it_tuple, ↓it_s, ↓gg_n, ↓gg_t, ↓gg_ix, ↓gs_nil, ↓gs_cons, ↓g_tupS, ↓g_lstS, ↓g_lstCS, ↓g_mkL, ↓g_mkC, ↓g_ixT, ↓g_ixL, ↓g_negK, ↓g_asCell, ↓p_nil, ↓p_one, ↓s_pass, ↓s_brk, ↓s_cont, ↓s_never, ↓s_expr, ↓s_ret, ↓s_retN, ↓s_asg, ↓s_par, ↓s_par3, ↓g_rgV, ↓g_rgVK, ↓g_revL, ↓g_revT, ↓s_aug, ↓s_iff, ↓b_add, ↓b_sub, ↓b_mulr, ↓b_mull, ↓b_fdiv, ↓b_mod, ↓b_addLS, ↓b_addTS, ↓q_eqI, ↓q_neI, ↓q_eqB, ↓q_neB, ↓q_lt, ↓q_le, ↓q_gt, ↓q_ge, ↓q_isN, ↓q_isB, ↓q_isnB, ↓isB_b, ↓q_isnN, ↓q_inB, ↓q_notinB, ↓f_lenT, ↓f_lenL, ↓f_int, ↓f_abs, ↓f_max2, ↓f_min2, ↓f_tupleL, ↓f_tupleT, ↓f_listL, ↓f_listT, ↓f_divmod, ↓f_all, ↓f_any, ↓f_sum, ↓a_0, ↓a_1, ↓a_2, ↓t_v, ↓go_cons, ↓go_nil, ↓go_bind, ↓go_pure, ↓go_lookM, ↓go_lookTM, ↓go_truB, ↓go_noneM, ↓go_moveM, ↓go_ite, ↓go_fin, startE, tyB, isNone, Tgs.len, Exs.len, List.map_cons, List.map_nil, List.length_cons, List.length_nil, List.cons_append, List.nil_append, List.take_length, if_true, Bool.not_false, Bool.not_true, List.set_cons_zero, List.set_cons_succ, Nat.reduceAdd, Nat.reduceSub, List.reduceReplicate, Bool.false_eq_true, if_false, reduceIte, and_self, Bool.true_eq_false, decide_true, decide_false]
      have : best = tr pl a b := hf
      rw [this]
      exact hq
end
end RL

set_option Elab.async false
set_option linter.all false
set_option maxRecDepth 100000
set_option maxHeartbeats 4000000
namespace RL
open PySem PySem.Spec PyProof.Rows L2
/-! ### the reckoning -/
section
variable {pl : Pl} {a b l made day : Int}
theorem div_iff {d p : Int} : d / p * p = d ↔ d % p = 0 := by
  have := Int.emod_add_mul_ediv d p
  have e : d / p * p = p * (d / p) := Int.mul_comm _ _
  rw [e]
  constructor <;> intro h <;> omega
theorem last_eq {d p : Int} : d - d % p = d / p * p := by
  have := Int.emod_add_mul_ediv d p
  have e : d / p * p = p * (d / p) := Int.mul_comm _ _
  rw [e]; omega
theorem tail_nn : 0 ≤ tail' pl a b := maxI_geS _ _
theorem tail_ge {p : Int × Int} (hp : p ∈ pl) (h : a ≤ (b - 1) / p.1 * p.1) : p.2 - ((b - 1) - (b - 1) / p.1 * p.1) ≤ tail' pl a b := by
  refine maxI_leS _ _ _ ?_
  unfold tls
  refine List.mem_flatMap.mpr ⟨p, hp, ?_⟩
  unfold tl
  rw [if_pos h]; simp
theorem tail_or : tail' pl a b = 0 ∨ ∃ p ∈ pl, a ≤ (b - 1) / p.1 * p.1 ∧ tail' pl a b = p.2 - ((b - 1) - (b - 1) / p.1 * p.1) := by
  rcases maxI_or 0 (tls pl a b) with h | h
  · exact .inl h
  · right
    unfold tls at h
    obtain ⟨p, hp, h⟩ := List.mem_flatMap.mp h
    unfold tl at h
    by_cases hc : a ≤ (b - 1) / p.1 * p.1
    · rw [if_pos hc] at h
      exact ⟨p, hp, hc, List.mem_singleton.mp h⟩
    · rw [if_neg hc] at h; cases h
theorem last_ge {d m p : Int} (hp : 1 ≤ p) (h : m ≤ d) (hm : m % p = 0) : m ≤ d / p * p := by
  have h1 := div_iff.mpr hm
  have h2 : m / p ≤ d / p := Int.ediv_le_ediv (by omega) h
  have h3 : m / p * p ≤ d / p * p := Int.mul_le_mul_of_nonneg_right h2 (by omega)
  omega
theorem tail_le (h : Pok pl) {K : Int} (hK : 0 ≤ K) (hk : ∀ p ∈ pl, p.2 ≤ K) : tail' pl a b ≤ K := by
  rcases tail_or (pl := pl) (a := a) (b := b) with e | ⟨p, hp, h1, e⟩
  · omega
  · have := hk p hp
    have h2 : (b - 1) / p.1 * p.1 ≤ b - 1 := Int.ediv_mul_le _ (by have := (h.all p hp).1; omega)
    omega
theorem tr_eq : tr pl a b = b - 1 + tail' pl a b := by
  have key : ∀ (pl : Pl) (t : Int), pl.foldl (trS a b) (b - 1 + t) = b - 1 + maxI t (tls pl a b) := by
    intro pl
    induction pl with
    | nil => intro t; rfl
    | cons p pl ih =>
      intro t
      rw [List.foldl_cons]
      unfold tls
      rw [List.flatMap_cons]
      unfold trS tl
      rw [last_eq]
      by_cases hc : a ≤ (b - 1) / p.1 * p.1
      · rw [if_pos hc, if_pos hc]
        show _ = b - 1 + maxI (if p.2 - (b - 1 - (b - 1) / p.1 * p.1) > t then p.2 - (b - 1 - (b - 1) / p.1 * p.1) else t) (tls pl a b)
        rw [← ih]
        congr 1
        by_cases h2 : p.2 - (b - 1 - (b - 1) / p.1 * p.1) > t
        · rw [if_pos h2, if_pos (by omega)]; omega
        · rw [if_neg h2, if_neg (by omega)]
      · rw [if_neg hc, if_neg hc]
        exact ih t
  have := key pl 0
  unfold tr tail'
  rw [← this]
  congr 1
  omega
end
section
variable {n : Nat} {st : Sto} {i j k : Int} {Q : Val → Sto → Prop} {c : Nat} {x y z : Int}
theorem s41 {step keep : Int} (hn : 3 ≤ n) (h : c < st.length) (h1 : 1 ≤ step) (h2 : step ≤ 10) (h3 : 0 ≤ keep) (h4 : keep ≤ 999) (hq : ∀ pl x' y' z', Pok pl → (∀ p ∈ pl, p.2 ≤ keep ∨ p.2 ≤ 7) → Q (.d (plD pl)) (U st c x' y' z')) :
    Go (callN pr n 41 [.r c, .d (.int step), .d (.int keep)]) (U st c x y z) Q := by
  obtain ⟨m, rfl⟩ : ∃ m, n = m + 1 := ⟨n - 1, by omega⟩
  rw [go_call (fi := f41) rfl rfl]
  simp (maxSteps := 2000000) (disch := first | omega | assumption | (simp only [List.length_map, List.length_append, List.length_cons, List.length_nil, List.length_take, List.length_drop, List.length_reverse, List.length_replicate]; omega)) only [f41, g_tupK (xs := []) (big 0 (by decide)), ↓w_nil, ↓w_cons, ↓g_comp, ↓g_comp2, ↓s_for, ↓s_while, ↓g_non, ↓g_bl, ↓g_int, ↓g_str, ↓g_v, ↓g_g, ↓g_get0, ↓g_gets, ↓g_neg, ↓g_bin, ↓g_cmp, ↓g_cmp2, ↓g_and, ↓g_or, ↓g_not, ↓g_ite, ↓g_call, ↓g_callK, ↓g_bi, ↓g_listC, ↓g_rgT, ↓g_rgL, ↓g_isi, ↓g_isiT, ↓g_tup, ↓g_lst, ↓g_ix, ↓g_sl, ↓g_rev, ↓g_app, ↓g_upper, ↓t_and, ↓t_or, ↓t_not, ↓t_ite, ↓t_bl, ↓t_cmp, ↓t_cmp2, ↓t_call, ↓t_callK, ↓t_bi, ↓t_isi, ↓t_isiT, ↓t_ix, ↓l_nil, ↓l_cons, ↓lt_nil, ↓lt_cons, ↓looks_nil, ↓looks_cons, ↓moves_nil, ↓moves_cons, ↓i_seq, ↓i_rng1, ↓i_rng2, ↓i_enum, ↓i_zip, ↓it_list, ↓it_tuple, ↓it_s, ↓gg_n, ↓gg_t, ↓gg_ix, ↓gs_nil, ↓gs_cons, ↓g_tupS, ↓g_lstS, ↓g_lstCS, ↓g_mkL, ↓g_mkC, ↓g_ixT, ↓g_ixL, ↓g_negK, ↓g_asCell, ↓p_nil, ↓p_one, ↓s_pass, ↓s_brk, ↓s_cont, ↓s_never, ↓s_expr, ↓s_ret, ↓s_retN, ↓s_asg, ↓s_par, ↓s_par3, ↓g_rgV, ↓g_rgVK, ↓g_revL, ↓g_revT, ↓s_aug, ↓s_iff, ↓b_add, ↓b_sub, ↓b_mulr, ↓b_mull, ↓b_fdiv, ↓b_mod, ↓b_addLS, ↓b_addTS, ↓q_eqI, ↓q_neI, ↓q_eqB, ↓q_neB, ↓q_lt, ↓q_le, ↓q_gt, ↓q_ge, ↓q_isN, ↓q_isB, ↓q_isnB, ↓isB_b, ↓q_isnN, ↓q_inB, ↓q_notinB, ↓f_lenT, ↓f_lenL, ↓f_int, ↓f_abs, ↓f_max2, ↓f_min2, ↓f_tupleL, ↓f_tupleT, ↓f_listL, ↓f_listT, ↓f_divmod, ↓f_all, ↓f_any, ↓f_sum, ↓a_0, ↓a_1, ↓a_2, ↓t_v, ↓go_cons, ↓go_nil, ↓go_bind, ↓go_pure, ↓go_lookM, ↓go_lookTM, ↓go_truB, ↓go_noneM, ↓go_moveM, ↓go_ite, ↓go_fin, startE, tyB, isNone, Tgs.len, Exs.len, List.map_cons, List.map_nil, List.length_cons, List.length_nil, List.cons_append, List.nil_append, List.take_length, if_true, Bool.not_false, Bool.not_true, List.set_cons_zero, List.set_cons_succ, Nat.reduceAdd, Nat.reduceSub, List.reduceReplicate, Bool.false_eq_true, if_false, reduceIte, and_self, Bool.true_eq_false, decide_true, decide_false]
  refine s31 (by omega) h (by decide) (by decide) fun r x1 y1 z1 r0 r1 => ?_
  simp (maxSteps := 2000000) (disch := first | omega | assumption | (simp only [List.length_map, List.length_append, List.length_cons, List.length_nil, List.length_take, List.length_drop, List.length_reverse, List.length_replicate]; omega)) only [rng1_ok (j := 1 + r) (rgOk_by (by decide) (by decide) (by omega) (by omega) (by omega)), ↓w_nil, ↓w_cons, ↓g_comp, ↓g_comp2, ↓s_for, ↓s_while, ↓g_non, ↓g_bl, ↓g_int, ↓g_str, ↓g_v, ↓g_g, ↓g_get0, ↓g_gets, ↓g_neg, ↓g_bin, ↓g_cmp, ↓g_cmp2, ↓g_and, ↓g_or, ↓g_not, ↓g_ite, ↓g_call, ↓g_callK, ↓g_bi, ↓g_listC, ↓g_rgT, ↓g_rgL, ↓g_isi, ↓g_isiT, ↓g_tup, ↓g_lst, ↓g_ix, ↓g_sl, ↓g_rev, ↓g_app, ↓g_upper, ↓t_and, ↓t_or, ↓t_not, ↓t_ite, ↓t_bl, ↓t_cmp, ↓t_cmp2, ↓t_call, ↓t_callK, ↓t_bi, ↓t_isi, ↓t_isiT, ↓t_ix, ↓l_nil, ↓l_cons, ↓lt_nil, ↓lt_cons, ↓looks_nil, ↓looks_cons, ↓moves_nil, ↓moves_cons, ↓i_seq, ↓i_rng1, ↓i_rng2, ↓i_enum, ↓i_zip, ↓it_list, ↓it_tuple, ↓it_s, ↓gg_n, ↓gg_t, ↓gg_ix, ↓gs_nil, ↓gs_cons, ↓g_tupS, ↓g_lstS, ↓g_lstCS, ↓g_mkL, ↓g_mkC, ↓g_ixT, ↓g_ixL, ↓g_negK, ↓g_asCell, ↓p_nil, ↓p_one, ↓s_pass, ↓s_brk, ↓s_cont, ↓s_never, ↓s_expr, ↓s_ret, ↓s_retN, ↓s_asg, ↓s_par, ↓s_par3, ↓g_rgV, ↓g_rgVK, ↓g_revL, ↓g_revT, ↓s_aug, ↓s_iff, ↓b_add, ↓b_sub, ↓b_mulr, ↓b_mull, ↓b_fdiv, ↓b_mod, ↓b_addLS, ↓b_addTS, ↓q_eqI, ↓q_neI, ↓q_eqB, ↓q_neB, ↓q_lt, ↓q_le, ↓q_gt, ↓q_ge, ↓q_isN, ↓q_isB, ↓q_isnB, ↓isB_b, ↓q_isnN, ↓q_inB, ↓q_notinB, ↓f_lenT, ↓f_lenL, ↓f_int, ↓f_abs, ↓f_max2, ↓f_min2, ↓f_tupleL, ↓f_tupleT, ↓f_listL, ↓f_listT, ↓f_divmod, ↓f_all, ↓f_any, ↓f_sum, ↓a_0, ↓a_1, ↓a_2, ↓t_v, ↓go_cons, ↓go_nil, ↓go_bind, ↓go_pure, ↓go_lookM, ↓go_lookTM, ↓go_truB, ↓go_noneM, ↓go_moveM, ↓go_ite, ↓go_fin, startE, tyB, isNone, Tgs.len, Exs.len, List.map_cons, List.map_nil, List.length_cons, List.length_nil, List.cons_append, List.nil_append, List.take_length, if_true, Bool.not_false, Bool.not_true, List.set_cons_zero, List.set_cons_succ, Nat.reduceAdd, Nat.reduceSub, List.reduceReplicate, Bool.false_eq_true, if_false, reduceIte, and_self, Bool.true_eq_false, decide_true, decide_false]
  refine go_forL (fun xs ρ s => ∃ (l : Pl) (x4 : Option Val) (x y z : Int), ρ = [some (.r c), some (.d (.int step)), some (.d (.int keep)), some (.d (.tuple (l.map pD))), x4] ∧ s = U st c x y z ∧ (∀ p ∈ l, (1 ≤ p.1 ∧ p.1 ≤ 10 ∧ 0 ≤ p.2 ∧ p.2 ≤ 999) ∧ (p.2 ≤ keep ∨ p.2 ≤ 7)) ∧ l.length + xs.length = (1 + r).toNat) ?_ ?_ _ _ _ ⟨[], none, _, _, _, rfl, rfl, fun _ z => (by cases z), by rw [rgD_len]; simp⟩
  · rintro x0 rr ρ s ⟨l, x4, x, y, z, rfl, rfl, hl, hlen⟩
    have hlen : l.length + (rr.length + 1) = (1 + r).toNat := hlen
    simp (maxSteps := 2000000) (disch := first | omega | assumption | (simp only [List.length_map, List.length_append, List.length_cons, List.length_nil, List.length_take, List.length_drop, List.length_reverse, List.length_replicate]; omega)) only [↓w_nil, ↓w_cons, ↓g_comp, ↓g_comp2, ↓s_for, ↓s_while, ↓g_non, ↓g_bl, ↓g_int, ↓g_str, ↓g_v, ↓g_g, ↓g_get0, ↓g_gets, ↓g_neg, ↓g_bin, ↓g_cmp, ↓g_cmp2, ↓g_and, ↓g_or, ↓g_not, ↓g_ite, ↓g_call, ↓g_callK, ↓g_bi, ↓g_listC, ↓g_rgT, ↓g_rgL, ↓g_isi, ↓g_isiT, ↓g_tup, ↓g_lst, ↓g_ix, ↓g_sl, ↓g_rev, ↓g_app, ↓g_upper, ↓t_and, ↓t_or, ↓t_not, ↓t_ite, ↓t_bl, ↓t_cmp, ↓t_cmp2, ↓t_call, ↓t_callK, ↓t_bi, ↓t_isi, ↓t_isiT, ↓t_ix, ↓l_nil, ↓l_cons, ↓lt_nil, ↓lt_cons, ↓looks_nil, ↓looks_cons, ↓moves_nil, ↓moves_cons, ↓i_seq, ↓i_rng1, ↓i_rng2, ↓i_enum, ↓i_zip, ↓it_list, ↓it_tuple, ↓it_s, ↓gg_n, ↓gg_t, ↓gg_ix, ↓gs_nil, ↓gs_cons, ↓g_tupS, ↓g_lstS, ↓g_lstCS, ↓g_mkL, ↓g_mkC, ↓g_ixT, ↓g_ixL, ↓g_negK, ↓g_asCell, ↓p_nil, ↓p_one, ↓s_pass, ↓s_brk, ↓s_cont, ↓s_never, ↓s_expr, ↓s_ret, ↓s_retN, ↓s_asg, ↓s_par, ↓s_par3, ↓g_rgV, ↓g_rgVK, ↓g_revL, ↓g_revT, ↓s_aug, ↓s_iff, ↓b_add, ↓b_sub, ↓b_mulr, ↓b_mull, ↓b_fdiv, ↓b_mod, ↓b_addLS, ↓b_addTS, ↓q_eqI, ↓q_neI, ↓q_eqB, ↓q_neB, ↓q_lt, ↓q_le, ↓q_gt, ↓q_ge, ↓q_isN, ↓q_isB, ↓q_isnB, ↓isB_b, ↓q_isnN, ↓q_inB, ↓q_notinB, ↓f_lenT, ↓f_lenL, ↓f_int, ↓f_abs, ↓f_max2, ↓f_min2, ↓f_tupleL, ↓f_tupleT, ↓f_listL, ↓f_listT, ↓f_divmod, ↓f_all, ↓f_any, ↓f_sum, ↓a_0, ↓a_1, ↓a_2, ↓t_v, ↓go_cons, ↓go_nil, ↓go_bind, ↓go_pure, ↓go_lookM, ↓go_lookTM, ↓go_truB, ↓go_noneM, ↓go_moveM, ↓go_ite, ↓go_fin, startE, tyB, isNone, Tgs.len, Exs.len, List.map_cons, List.map_nil, List.length_cons, List.length_nil, List.cons_append, List.nil_append, List.take_length, if_true, Bool.not_false, Bool.not_true, List.set_cons_zero, List.set_cons_succ, Nat.reduceAdd, Nat.reduceSub, List.reduceReplicate, Bool.false_eq_true, if_false, reduceIte, and_self, Bool.true_eq_false, decide_true, decide_false]
    refine s31 (by omega) h h1 (by omega) fun r1 x2 y2 z2 r10 r11 => ?_
    simp (maxSteps := 2000000) (disch := first | omega | assumption | (simp only [List.length_map, List.length_append, List.length_cons, List.length_nil, List.length_take, List.length_drop, List.length_reverse, List.length_replicate]; omega)) only [↓w_nil, ↓w_cons, ↓g_comp, ↓g_comp2, ↓s_for, ↓s_while, ↓g_non, ↓g_bl, ↓g_int, ↓g_str, ↓g_v, ↓g_g, ↓g_get0, ↓g_gets, ↓g_neg, ↓g_bin, ↓g_cmp, ↓g_cmp2, ↓g_and, ↓g_or, ↓g_not, ↓g_ite, ↓g_call, ↓g_callK, ↓g_bi, ↓g_listC, ↓g_rgT, ↓g_rgL, ↓g_isi, ↓g_isiT, ↓g_tup, ↓g_lst, ↓g_ix, ↓g_sl, ↓g_rev, ↓g_app, ↓g_upper, ↓t_and, ↓t_or, ↓t_not, ↓t_ite, ↓t_bl, ↓t_cmp, ↓t_cmp2, ↓t_call, ↓t_callK, ↓t_bi, ↓t_isi, ↓t_isiT, ↓t_ix, ↓l_nil, ↓l_cons, ↓lt_nil, ↓lt_cons, ↓looks_nil, ↓looks_cons, ↓moves_nil, ↓moves_cons, ↓i_seq, ↓i_rng1, ↓i_rng2, ↓i_enum, ↓i_zip, ↓it_list, ↓it_tuple, ↓it_s, ↓gg_n, ↓gg_t, ↓gg_ix, ↓gs_nil, ↓gs_cons, ↓g_tupS, ↓g_lstS, ↓g_lstCS, ↓g_mkL, ↓g_mkC, ↓g_ixT, ↓g_ixL, ↓g_negK, ↓g_asCell, ↓p_nil, ↓p_one, ↓s_pass, ↓s_brk, ↓s_cont, ↓s_never, ↓s_expr, ↓s_ret, ↓s_retN, ↓s_asg, ↓s_par, ↓s_par3, ↓g_rgV, ↓g_rgVK, ↓g_revL, ↓g_revT, ↓s_aug, ↓s_iff, ↓b_add, ↓b_sub, ↓b_mulr, ↓b_mull, ↓b_fdiv, ↓b_mod, ↓b_addLS, ↓b_addTS, ↓q_eqI, ↓q_neI, ↓q_eqB, ↓q_neB, ↓q_lt, ↓q_le, ↓q_gt, ↓q_ge, ↓q_isN, ↓q_isB, ↓q_isnB, ↓isB_b, ↓q_isnN, ↓q_inB, ↓q_notinB, ↓f_lenT, ↓f_lenL, ↓f_int, ↓f_abs, ↓f_max2, ↓f_min2, ↓f_tupleL, ↓f_tupleT, ↓f_listL, ↓f_listT, ↓f_divmod, ↓f_all, ↓f_any, ↓f_sum, ↓a_0, ↓a_1, ↓a_2, ↓t_v, ↓go_cons, ↓go_nil, ↓go_bind, ↓go_pure, ↓go_lookM, ↓go_lookTM, ↓go_truB, ↓go_noneM, ↓go_moveM, ↓go_ite, ↓go_fin, startE, tyB, isNone, Tgs.len, Exs.len, List.map_cons, List.map_nil, List.length_cons, List.length_nil, List.cons_append, List.nil_append, List.take_length, if_true, Bool.not_false, Bool.not_true, List.set_cons_zero, List.set_cons_succ, Nat.reduceAdd, Nat.reduceSub, List.reduceReplicate, Bool.false_eq_true, if_false, reduceIte, and_self, Bool.true_eq_false, decide_true, decide_false]
    refine s31 (by omega) h (by omega) (by omega) fun r2 x3 y3 z3 r20 r21 => ?_
    simp (maxSteps := 2000000) (disch := first | omega | assumption | (simp only [List.length_map, List.length_append, List.length_cons, List.length_nil, List.length_take, List.length_drop, List.length_reverse, List.length_replicate]; omega)) only [↓w_nil, ↓w_cons, ↓g_comp, ↓g_comp2, ↓s_for, ↓s_while, ↓g_non, ↓g_bl, ↓g_int, ↓g_str, ↓g_v, ↓g_g, ↓g_get0, ↓g_gets, ↓g_neg, ↓g_bin, ↓g_cmp, ↓g_cmp2, ↓g_and, ↓g_or, ↓g_not, ↓g_ite, ↓g_call, ↓g_callK, ↓g_bi, ↓g_listC, ↓g_rgT, ↓g_rgL, ↓g_isi, ↓g_isiT, ↓g_tup, ↓g_lst, ↓g_ix, ↓g_sl, ↓g_rev, ↓g_app, ↓g_upper, ↓t_and, ↓t_or, ↓t_not, ↓t_ite, ↓t_bl, ↓t_cmp, ↓t_cmp2, ↓t_call, ↓t_callK, ↓t_bi, ↓t_isi, ↓t_isiT, ↓t_ix, ↓l_nil, ↓l_cons, ↓lt_nil, ↓lt_cons, ↓looks_nil, ↓looks_cons, ↓moves_nil, ↓moves_cons, ↓i_seq, ↓i_rng1, ↓i_rng2, ↓i_enum, ↓i_zip, ↓it_list, ↓it_tuple, ↓it_s, ↓gg_n, ↓gg_t, ↓gg_ix, ↓gs_nil, ↓gs_cons, ↓g_tupS, ↓g_lstS, ↓g_lstCS, ↓g_mkL, ↓g_mkC, ↓g_ixT, ↓g_ixL, ↓g_negK, ↓g_asCell, ↓p_nil, ↓p_one, ↓s_pass, ↓s_brk, ↓s_cont, ↓s_never, ↓s_expr, ↓s_ret, ↓s_retN, ↓s_asg, ↓s_par, ↓s_par3, ↓g_rgV, ↓g_rgVK, ↓g_revL, ↓g_revT, ↓s_aug, ↓s_iff, ↓b_add, ↓b_sub, ↓b_mulr, ↓b_mull, ↓b_fdiv, ↓b_mod, ↓b_addLS, ↓b_addTS, ↓q_eqI, ↓q_neI, ↓q_eqB, ↓q_neB, ↓q_lt, ↓q_le, ↓q_gt, ↓q_ge, ↓q_isN, ↓q_isB, ↓q_isnB, ↓isB_b, ↓q_isnN, ↓q_inB, ↓q_notinB, ↓f_lenT, ↓f_lenL, ↓f_int, ↓f_abs, ↓f_max2, ↓f_min2, ↓f_tupleL, ↓f_tupleT, ↓f_listL, ↓f_listT, ↓f_divmod, ↓f_all, ↓f_any, ↓f_sum, ↓a_0, ↓a_1, ↓a_2, ↓t_v, ↓go_cons, ↓go_nil, ↓go_bind, ↓go_pure, ↓go_lookM, ↓go_lookTM, ↓go_truB, ↓go_noneM, ↓go_moveM, ↓go_ite, ↓go_fin, startE, tyB, isNone, Tgs.len, Exs.len, List.map_cons, List.map_nil, List.length_cons, List.length_nil, List.cons_append, List.nil_append, List.take_length, if_true, Bool.not_false, Bool.not_true, List.set_cons_zero, List.set_cons_succ, Nat.reduceAdd, Nat.reduceSub, List.reduceReplicate, Bool.false_eq_true, if_false, reduceIte, and_self, Bool.true_eq_false, decide_true, decide_false]
    refine s31 (by omega) h (by omega) (by omega) fun r3 x4 y4 z4 r30 r31 => ?_
    simp (maxSteps := 2000000) (disch := first | omega | assumption | (simp only [List.length_map, List.length_append, List.length_cons, List.length_nil, List.length_take, List.length_drop, List.length_reverse, List.length_replicate]; omega)) only [g_tupK (xs := [_, _, _, _]) (big 4 (by decide)), ↓w_nil, ↓w_cons, ↓g_comp, ↓g_comp2, ↓s_for, ↓s_while, ↓g_non, ↓g_bl, ↓g_int, ↓g_str, ↓g_v, ↓g_g, ↓g_get0, ↓g_gets, ↓g_neg, ↓g_bin, ↓g_cmp, ↓g_cmp2, ↓g_and, ↓g_or, ↓g_not, ↓g_ite, ↓g_call, ↓g_callK, ↓g_bi, ↓g_listC, ↓g_rgT, ↓g_rgL, ↓g_isi, ↓g_isiT, ↓g_tup, ↓g_lst, ↓g_ix, ↓g_sl, ↓g_rev, ↓g_app, ↓g_upper, ↓t_and, ↓t_or, ↓t_not, ↓t_ite, ↓t_bl, ↓t_cmp, ↓t_cmp2, ↓t_call, ↓t_callK, ↓t_bi, ↓t_isi, ↓t_isiT, ↓t_ix, ↓l_nil, ↓l_cons, ↓lt_nil, ↓lt_cons, ↓looks_nil, ↓looks_cons, ↓moves_nil, ↓moves_cons, ↓i_seq, ↓i_rng1, ↓i_rng2, ↓i_enum, ↓i_zip, ↓it_list, ↓it_tuple, ↓it_s, ↓gg_n, ↓gg_t, ↓gg_ix, ↓gs_nil, ↓gs_cons, ↓g_tupS, ↓g_lstS, ↓g_lstCS, ↓g_mkL, ↓g_mkC, ↓g_ixT, ↓g_ixL, ↓g_negK, ↓g_asCell, ↓p_nil, ↓p_one, ↓s_pass, ↓s_brk, ↓s_cont, ↓s_never, ↓s_expr, ↓s_ret, ↓s_retN, ↓s_asg, ↓s_par, ↓s_par3, ↓g_rgV, ↓g_rgVK, ↓g_revL, ↓g_revT, ↓s_aug, ↓s_iff, ↓b_add, ↓b_sub, ↓b_mulr, ↓b_mull, ↓b_fdiv, ↓b_mod, ↓b_addLS, ↓b_addTS, ↓q_eqI, ↓q_neI, ↓q_eqB, ↓q_neB, ↓q_lt, ↓q_le, ↓q_gt, ↓q_ge, ↓q_isN, ↓q_isB, ↓q_isnB, ↓isB_b, ↓q_isnN, ↓q_inB, ↓q_notinB, ↓f_lenT, ↓f_lenL, ↓f_int, ↓f_abs, ↓f_max2, ↓f_min2, ↓f_tupleL, ↓f_tupleT, ↓f_listL, ↓f_listT, ↓f_divmod, ↓f_all, ↓f_any, ↓f_sum, ↓a_0, ↓a_1, ↓a_2, ↓t_v, ↓go_cons, ↓go_nil, ↓go_bind, ↓go_pure, ↓go_lookM, ↓go_lookTM, ↓go_truB, ↓go_noneM, ↓go_moveM, ↓go_ite, ↓go_fin, startE, tyB, isNone, Tgs.len, Exs.len, List.map_cons, List.map_nil, List.length_cons, List.length_nil, List.cons_append, List.nil_append, List.take_length, if_true, Bool.not_false, Bool.not_true, List.set_cons_zero, List.set_cons_succ, Nat.reduceAdd, Nat.reduceSub, List.reduceReplicate, Bool.false_eq_true, if_false, reduceIte, and_self, Bool.true_eq_false, decide_true, decide_false]
    refine s32 (by omega) h (by simp) (by simp) fun e x5 y5 z5 he => ?_
    obtain ⟨w, rfl, w0, w1, w2⟩ : ∃ w, e = .int w ∧ 0 ≤ w ∧ w ≤ 999 ∧ (w ≤ keep ∨ w ≤ 7) := by
      simp only [List.mem_cons, List.not_mem_nil, or_false] at he
      rcases he with rfl | rfl | rfl | rfl
      · exact ⟨_, rfl, by omega, by omega, by omega⟩
      · exact ⟨_, rfl, by omega, by omega, by omega⟩
      · exact ⟨_, rfl, by omega, by omega, by omega⟩
      · exact ⟨_, rfl, by omega, by omega, by omega⟩
    have hb : (l.map pD).length + [PyData.tuple [.int (1 + r1), .int w]].length ≤ sizeLine := big _ (by rw [List.length_map]; show l.length + 1 ≤ _; omega)
    simp (maxSteps := 2000000) (disch := first | omega | assumption | (simp only [List.length_map, List.length_append, List.length_cons, List.length_nil, List.length_take, List.length_drop, List.length_reverse, List.length_replicate]; omega)) only [g_tupK (xs := [_, _]) (big 2 (by decide)), g_tupK (xs := [_]) (big 1 (by decide)), b_addT hb, ↓w_nil, ↓w_cons, ↓g_comp, ↓g_comp2, ↓s_for, ↓s_while, ↓g_non, ↓g_bl, ↓g_int, ↓g_str, ↓g_v, ↓g_g, ↓g_get0, ↓g_gets, ↓g_neg, ↓g_bin, ↓g_cmp, ↓g_cmp2, ↓g_and, ↓g_or, ↓g_not, ↓g_ite, ↓g_call, ↓g_callK, ↓g_bi, ↓g_listC, ↓g_rgT, ↓g_rgL, ↓g_isi, ↓g_isiT, ↓g_tup, ↓g_lst, ↓g_ix, ↓g_sl, ↓g_rev, ↓g_app, ↓g_upper, ↓t_and, ↓t_or, ↓t_not, ↓t_ite, ↓t_bl, ↓t_cmp, ↓t_cmp2, ↓t_call, ↓t_callK, ↓t_bi, ↓t_isi, ↓t_isiT, ↓t_ix, ↓l_nil, ↓l_cons, ↓lt_nil, ↓lt_cons, ↓looks_nil, ↓looks_cons, ↓moves_nil, ↓moves_cons, ↓i_seq, ↓i_rng1, ↓i_rng2, ↓i_enum, ↓i_zip, ↓it_list, ↓it_tuple, ↓it_s, ↓gg_n, ↓gg_t, ↓gg_ix, ↓gs_nil, ↓gs_cons, ↓g_tupS, ↓g_lstS, ↓g_lstCS, ↓g_mkL, ↓g_mkC, ↓g_ixT, ↓g_ixL, ↓g_negK, ↓g_asCell, ↓p_nil, ↓p_one, ↓s_pass, ↓s_brk, ↓s_cont, ↓s_never, ↓s_expr, ↓s_ret, ↓s_retN, ↓s_asg, ↓s_par, ↓s_par3, ↓g_rgV, ↓g_rgVK, ↓g_revL, ↓g_revT, ↓s_aug, ↓s_iff, ↓b_add, ↓b_sub, ↓b_mulr, ↓b_mull, ↓b_fdiv, ↓b_mod, ↓b_addLS, ↓b_addTS, ↓q_eqI, ↓q_neI, ↓q_eqB, ↓q_neB, ↓q_lt, ↓q_le, ↓q_gt, ↓q_ge, ↓q_isN, ↓q_isB, ↓q_isnB, ↓isB_b, ↓q_isnN, ↓q_inB, ↓q_notinB, ↓f_lenT, ↓f_lenL, ↓f_int, ↓f_abs, ↓f_max2, ↓f_min2, ↓f_tupleL, ↓f_tupleT, ↓f_listL, ↓f_listT, ↓f_divmod, ↓f_all, ↓f_any, ↓f_sum, ↓a_0, ↓a_1, ↓a_2, ↓t_v, ↓go_cons, ↓go_nil, ↓go_bind, ↓go_pure, ↓go_lookM, ↓go_lookTM, ↓go_truB, ↓go_noneM, ↓go_moveM, ↓go_ite, ↓go_fin, startE, tyB, isNone, Tgs.len, Exs.len, List.map_cons, List.map_nil, List.length_cons, List.length_nil, List.cons_append, List.nil_append, List.take_length, if_true, Bool.not_false, Bool.not_true, List.set_cons_zero, List.set_cons_succ, Nat.reduceAdd, Nat.reduceSub, List.reduceReplicate, Bool.false_eq_true, if_false, reduceIte, and_self, Bool.true_eq_false, decide_true, decide_false]
    refine ⟨l ++ [(1 + r1, w)], _, _, _, _, by rw [List.map_append]; rfl, rfl, fun p hp => ?_, by rw [List.length_append]; show l.length + 1 + _ = _; omega⟩
    rcases List.mem_append.mp hp with hp | hp
    · exact hl p hp
    · rw [List.mem_singleton.mp hp]
      exact ⟨⟨by show 1 ≤ 1 + r1; omega, by show 1 + r1 ≤ 10; omega, w0, w1⟩, w2⟩
  · rintro ρ s ⟨l, x4, x, y, z, rfl, rfl, hl, hlen⟩
    simp (maxSteps := 2000000) (disch := first | omega | assumption | (simp only [List.length_map, List.length_append, List.length_cons, List.length_nil, List.length_take, List.length_drop, List.length_reverse, List.length_replicate]; omega)) only [U_take, ↓w_nil, ↓w_cons, ↓g_comp, ↓g_comp2, ↓s_for, ↓s_while, ↓g_non, ↓g_bl, ↓g_int, ↓g_str, ↓g_v, ↓g_g, ↓g_get0, ↓g_gets, ↓g_neg, ↓g_bin, ↓g_cmp, ↓g_cmp2, ↓g_and, ↓g_or, ↓g_not, ↓g_ite, ↓g_call, ↓g_callK, ↓g_bi, ↓g_listC, ↓g_rgT, ↓g_rgL, ↓g_isi, ↓g_isiT, ↓g_tup, ↓g_lst, ↓g_ix, ↓g_sl, ↓g_rev, ↓g_app, ↓g_upper, ↓t_and, ↓t_or, ↓t_not, ↓t_ite, ↓t_bl, ↓t_cmp, ↓t_cmp2, ↓t_call, ↓t_callK, ↓t_bi, ↓t_isi, ↓t_isiT, ↓t_ix, ↓l_nil, ↓l_cons, ↓lt_nil, ↓lt_cons, ↓looks_nil, ↓looks_cons, ↓moves_nil, ↓moves_cons, ↓i_seq, ↓i_rng1, ↓i_rng2, ↓i_enum, ↓i_zip, ↓it_list, ↓it_tuple, ↓it_s, ↓gg_n, ↓gg_t, ↓gg_ix, ↓gs_nil, ↓gs_cons, ↓g_tupS, ↓g_lstS, ↓g_lstCS, ↓g_mkL, ↓g_mkC, ↓g_ixT, ↓g_ixL, ↓g_negK, ↓g_asCell, ↓p_nil, ↓p_one, ↓s_pass, ↓s_brk, ↓s_cont, ↓s_never, ↓s_expr, ↓s_ret, ↓s_retN, ↓s_asg, ↓s_par, ↓s_par3, ↓g_rgV, ↓g_rgVK, ↓g_revL, ↓g_revT, ↓s_aug, ↓s_iff, ↓b_add, ↓b_sub, ↓b_mulr, ↓b_mull, ↓b_fdiv, ↓b_mod, ↓b_addLS, ↓b_addTS, ↓q_eqI, ↓q_neI, ↓q_eqB, ↓q_neB, ↓q_lt, ↓q_le, ↓q_gt, ↓q_ge, ↓q_isN, ↓q_isB, ↓q_isnB, ↓isB_b, ↓q_isnN, ↓q_inB, ↓q_notinB, ↓f_lenT, ↓f_lenL, ↓f_int, ↓f_abs, ↓f_max2, ↓f_min2, ↓f_tupleL, ↓f_tupleT, ↓f_listL, ↓f_listT, ↓f_divmod, ↓f_all, ↓f_any, ↓f_sum, ↓a_0, ↓a_1, ↓a_2, ↓t_v, ↓go_cons, ↓go_nil, ↓go_bind, ↓go_pure, ↓go_lookM, ↓go_lookTM, ↓go_truB, ↓go_noneM, ↓go_moveM, ↓go_ite, ↓go_fin, startE, tyB, isNone, Tgs.len, Exs.len, List.map_cons, List.map_nil, List.length_cons, List.length_nil, List.cons_append, List.nil_append, List.take_length, if_true, Bool.not_false, Bool.not_true, List.set_cons_zero, List.set_cons_succ, Nat.reduceAdd, Nat.reduceSub, List.reduceReplicate, Bool.false_eq_true, if_false, reduceIte, and_self, Bool.true_eq_false, decide_true, decide_false]
    have hlen : l.length + 0 = (1 + r).toNat := hlen
    exact hq l _ _ _ ⟨fun e => by subst e; simp at hlen; omega, by omega, fun p hp => (hl p hp).1⟩ fun p hp => (hl p hp).2
theorem s43 {high : Int} (hn : 3 ≤ n) (h : c < st.length) (h1 : 1 ≤ high) (h2 : high ≤ 90000) (hq : ∀ a b x' y' z', Sok a b → b ≤ 90100 → Q (.d (.tuple [.int a, .int b])) (U st c x' y' z')) :
    Go (callN pr n 43 [.r c, .d (.int high)]) (U st c x y z) Q := by
  obtain ⟨m, rfl⟩ : ∃ m, n = m + 1 := ⟨n - 1, by omega⟩
  rw [go_call (fi := f43) rfl rfl]
  simp (maxSteps := 2000000) (disch := first | omega | assumption | (simp only [List.length_map, List.length_append, List.length_cons, List.length_nil, List.length_take, List.length_drop, List.length_reverse, List.length_replicate]; omega)) only [f43, ↓w_nil, ↓w_cons, ↓g_comp, ↓g_comp2, ↓s_for, ↓s_while, ↓g_non, ↓g_bl, ↓g_int, ↓g_str, ↓g_v, ↓g_g, ↓g_get0, ↓g_gets, ↓g_neg, ↓g_bin, ↓g_cmp, ↓g_cmp2, ↓g_and, ↓g_or, ↓g_not, ↓g_ite, ↓g_call, ↓g_callK, ↓g_bi, ↓g_listC, ↓g_rgT, ↓g_rgL, ↓g_isi, ↓g_isiT, ↓g_tup, ↓g_lst, ↓g_ix, ↓g_sl, ↓g_rev, ↓g_app, ↓g_upper, ↓t_and, ↓t_or, ↓t_not, ↓t_ite, ↓t_bl, ↓t_cmp, ↓t_cmp2, ↓t_call, ↓t_callK, ↓t_bi, ↓t_isi, ↓t_isiT, ↓t_ix, ↓l_nil, ↓l_cons, ↓lt_nil, ↓lt_cons, ↓looks_nil, ↓looks_cons, ↓moves_nil, ↓moves_cons, ↓i_seq, ↓i_rng1, ↓i_rng2, ↓i_enum, ↓i_zip, ↓it_list, ↓it_tuple, ↓it_s, ↓gg_n, ↓gg_t, ↓gg_ix, ↓gs_nil, ↓gs_cons, ↓g_tupS, ↓g_lstS, ↓g_lstCS, ↓g_mkL, ↓g_mkC, ↓g_ixT, ↓g_ixL, ↓g_negK, ↓g_asCell, ↓p_nil, ↓p_one, ↓s_pass, ↓s_brk, ↓s_cont, ↓s_never, ↓s_expr, ↓s_ret, ↓s_retN, ↓s_asg, ↓s_par, ↓s_par3, ↓g_rgV, ↓g_rgVK, ↓g_revL, ↓g_revT, ↓s_aug, ↓s_iff, ↓b_add, ↓b_sub, ↓b_mulr, ↓b_mull, ↓b_fdiv, ↓b_mod, ↓b_addLS, ↓b_addTS, ↓q_eqI, ↓q_neI, ↓q_eqB, ↓q_neB, ↓q_lt, ↓q_le, ↓q_gt, ↓q_ge, ↓q_isN, ↓q_isB, ↓q_isnB, ↓isB_b, ↓q_isnN, ↓q_inB, ↓q_notinB, ↓f_lenT, ↓f_lenL, ↓f_int, ↓f_abs, ↓f_max2, ↓f_min2, ↓f_tupleL, ↓f_tupleT, ↓f_listL, ↓f_listT, ↓f_divmod, ↓f_all, ↓f_any, ↓f_sum, ↓a_0, ↓a_1, ↓a_2, ↓t_v, ↓go_cons, ↓go_nil, ↓go_bind, ↓go_pure, ↓go_lookM, ↓go_lookTM, ↓go_truB, ↓go_noneM, ↓go_moveM, ↓go_ite, ↓go_fin, startE, tyB, isNone, Tgs.len, Exs.len, List.map_cons, List.map_nil, List.length_cons, List.length_nil, List.cons_append, List.nil_append, List.take_length, if_true, Bool.not_false, Bool.not_true, List.set_cons_zero, List.set_cons_succ, Nat.reduceAdd, Nat.reduceSub, List.reduceReplicate, Bool.false_eq_true, if_false, reduceIte, and_self, Bool.true_eq_false, decide_true, decide_false]
  refine s31 (by omega) h (by omega) (by omega) fun r1 x2 y2 z2 r10 r11 => ?_
  simp (maxSteps := 2000000) (disch := first | omega | assumption | (simp only [List.length_map, List.length_append, List.length_cons, List.length_nil, List.length_take, List.length_drop, List.length_reverse, List.length_replicate]; omega)) only [↓w_nil, ↓w_cons, ↓g_comp, ↓g_comp2, ↓s_for, ↓s_while, ↓g_non, ↓g_bl, ↓g_int, ↓g_str, ↓g_v, ↓g_g, ↓g_get0, ↓g_gets, ↓g_neg, ↓g_bin, ↓g_cmp, ↓g_cmp2, ↓g_and, ↓g_or, ↓g_not, ↓g_ite, ↓g_call, ↓g_callK, ↓g_bi, ↓g_listC, ↓g_rgT, ↓g_rgL, ↓g_isi, ↓g_isiT, ↓g_tup, ↓g_lst, ↓g_ix, ↓g_sl, ↓g_rev, ↓g_app, ↓g_upper, ↓t_and, ↓t_or, ↓t_not, ↓t_ite, ↓t_bl, ↓t_cmp, ↓t_cmp2, ↓t_call, ↓t_callK, ↓t_bi, ↓t_isi, ↓t_isiT, ↓t_ix, ↓l_nil, ↓l_cons, ↓lt_nil, ↓lt_cons, ↓looks_nil, ↓looks_cons, ↓moves_nil, ↓moves_cons, ↓i_seq, ↓i_rng1, ↓i_rng2, ↓i_enum, ↓i_zip, ↓it_list, ↓it_tuple, ↓it_s, ↓gg_n, ↓gg_t, ↓gg_ix, ↓gs_nil, ↓gs_cons, ↓g_tupS, ↓g_lstS, ↓g_lstCS, ↓g_mkL, ↓g_mkC, ↓g_ixT, ↓g_ixL, ↓g_negK, ↓g_asCell, ↓p_nil, ↓p_one, ↓s_pass, ↓s_brk, ↓s_cont, ↓s_never, ↓s_expr, ↓s_ret, ↓s_retN, ↓s_asg, ↓s_par, ↓s_par3, ↓g_rgV, ↓g_rgVK, ↓g_revL, ↓g_revT, ↓s_aug, ↓s_iff, ↓b_add, ↓b_sub, ↓b_mulr, ↓b_mull, ↓b_fdiv, ↓b_mod, ↓b_addLS, ↓b_addTS, ↓q_eqI, ↓q_neI, ↓q_eqB, ↓q_neB, ↓q_lt, ↓q_le, ↓q_gt, ↓q_ge, ↓q_isN, ↓q_isB, ↓q_isnB, ↓isB_b, ↓q_isnN, ↓q_inB, ↓q_notinB, ↓f_lenT, ↓f_lenL, ↓f_int, ↓f_abs, ↓f_max2, ↓f_min2, ↓f_tupleL, ↓f_tupleT, ↓f_listL, ↓f_listT, ↓f_divmod, ↓f_all, ↓f_any, ↓f_sum, ↓a_0, ↓a_1, ↓a_2, ↓t_v, ↓go_cons, ↓go_nil, ↓go_bind, ↓go_pure, ↓go_lookM, ↓go_lookTM, ↓go_truB, ↓go_noneM, ↓go_moveM, ↓go_ite, ↓go_fin, startE, tyB, isNone, Tgs.len, Exs.len, List.map_cons, List.map_nil, List.length_cons, List.length_nil, List.cons_append, List.nil_append, List.take_length, if_true, Bool.not_false, Bool.not_true, List.set_cons_zero, List.set_cons_succ, Nat.reduceAdd, Nat.reduceSub, List.reduceReplicate, Bool.false_eq_true, if_false, reduceIte, and_self, Bool.true_eq_false, decide_true, decide_false]
  refine s31 (by omega) h (by omega) (by omega) fun r2 x3 y3 z3 r20 r21 => ?_
  simp (maxSteps := 2000000) (disch := first | omega | assumption | (simp only [List.length_map, List.length_append, List.length_cons, List.length_nil, List.length_take, List.length_drop, List.length_reverse, List.length_replicate]; omega)) only [g_tupK (xs := [_, _, _]) (big 3 (by decide)), ↓w_nil, ↓w_cons, ↓g_comp, ↓g_comp2, ↓s_for, ↓s_while, ↓g_non, ↓g_bl, ↓g_int, ↓g_str, ↓g_v, ↓g_g, ↓g_get0, ↓g_gets, ↓g_neg, ↓g_bin, ↓g_cmp, ↓g_cmp2, ↓g_and, ↓g_or, ↓g_not, ↓g_ite, ↓g_call, ↓g_callK, ↓g_bi, ↓g_listC, ↓g_rgT, ↓g_rgL, ↓g_isi, ↓g_isiT, ↓g_tup, ↓g_lst, ↓g_ix, ↓g_sl, ↓g_rev, ↓g_app, ↓g_upper, ↓t_and, ↓t_or, ↓t_not, ↓t_ite, ↓t_bl, ↓t_cmp, ↓t_cmp2, ↓t_call, ↓t_callK, ↓t_bi, ↓t_isi, ↓t_isiT, ↓t_ix, ↓l_nil, ↓l_cons, ↓lt_nil, ↓lt_cons, ↓looks_nil, ↓looks_cons, ↓moves_nil, ↓moves_cons, ↓i_seq, ↓i_rng1, ↓i_rng2, ↓i_enum, ↓i_zip, ↓it_list, ↓it_tuple, ↓it_s, ↓gg_n, ↓gg_t, ↓gg_ix, ↓gs_nil, ↓gs_cons, ↓g_tupS, ↓g_lstS, ↓g_lstCS, ↓g_mkL, ↓g_mkC, ↓g_ixT, ↓g_ixL, ↓g_negK, ↓g_asCell, ↓p_nil, ↓p_one, ↓s_pass, ↓s_brk, ↓s_cont, ↓s_never, ↓s_expr, ↓s_ret, ↓s_retN, ↓s_asg, ↓s_par, ↓s_par3, ↓g_rgV, ↓g_rgVK, ↓g_revL, ↓g_revT, ↓s_aug, ↓s_iff, ↓b_add, ↓b_sub, ↓b_mulr, ↓b_mull, ↓b_fdiv, ↓b_mod, ↓b_addLS, ↓b_addTS, ↓q_eqI, ↓q_neI, ↓q_eqB, ↓q_neB, ↓q_lt, ↓q_le, ↓q_gt, ↓q_ge, ↓q_isN, ↓q_isB, ↓q_isnB, ↓isB_b, ↓q_isnN, ↓q_inB, ↓q_notinB, ↓f_lenT, ↓f_lenL, ↓f_int, ↓f_abs, ↓f_max2, ↓f_min2, ↓f_tupleL, ↓f_tupleT, ↓f_listL, ↓f_listT, ↓f_divmod, ↓f_all, ↓f_any, ↓f_sum, ↓a_0, ↓a_1, ↓a_2, ↓t_v, ↓go_cons, ↓go_nil, ↓go_bind, ↓go_pure, ↓go_lookM, ↓go_lookTM, ↓go_truB, ↓go_noneM, ↓go_moveM, ↓go_ite, ↓go_fin, startE, tyB, isNone, Tgs.len, Exs.len, List.map_cons, List.map_nil, List.length_cons, List.length_nil, List.cons_append, List.nil_append, List.take_length, if_true, Bool.not_false, Bool.not_true, List.set_cons_zero, List.set_cons_succ, Nat.reduceAdd, Nat.reduceSub, List.reduceReplicate, Bool.false_eq_true, if_false, reduceIte, and_self, Bool.true_eq_false, decide_true, decide_false]
  refine s32 (by omega) h (by simp) (by simp) fun e x5 y5 z5 he => ?_
  obtain ⟨a, rfl, a0, a1⟩ : ∃ w, e = .int w ∧ 0 ≤ w ∧ w ≤ 90000 := by
    simp only [List.mem_cons, List.not_mem_nil, or_false] at he
    rcases he with rfl | rfl | rfl
    · exact ⟨_, rfl, by omega, by omega⟩
    · exact ⟨_, rfl, by omega, by omega⟩
    · exact ⟨_, rfl, by omega, by omega⟩
  simp (maxSteps := 2000000) (disch := first | omega | assumption | (simp only [List.length_map, List.length_append, List.length_cons, List.length_nil, List.length_take, List.length_drop, List.length_reverse, List.length_replicate]; omega)) only [↓w_nil, ↓w_cons, ↓g_comp, ↓g_comp2, ↓s_for, ↓s_while, ↓g_non, ↓g_bl, ↓g_int, ↓g_str, ↓g_v, ↓g_g, ↓g_get0, ↓g_gets, ↓g_neg, ↓g_bin, ↓g_cmp, ↓g_cmp2, ↓g_and, ↓g_or, ↓g_not, ↓g_ite, ↓g_call, ↓g_callK, ↓g_bi, ↓g_listC, ↓g_rgT, ↓g_rgL, ↓g_isi, ↓g_isiT, ↓g_tup, ↓g_lst, ↓g_ix, ↓g_sl, ↓g_rev, ↓g_app, ↓g_upper, ↓t_and, ↓t_or, ↓t_not, ↓t_ite, ↓t_bl, ↓t_cmp, ↓t_cmp2, ↓t_call, ↓t_callK, ↓t_bi, ↓t_isi, ↓t_isiT, ↓t_ix, ↓l_nil, ↓l_cons, ↓lt_nil, ↓lt_cons, ↓looks_nil, ↓looks_cons, ↓moves_nil, ↓moves_cons, ↓i_seq, ↓i_rng1, ↓i_rng2, ↓i_enum, ↓i_zip, ↓it_list, ↓it_tuple, ↓it_s, ↓gg_n, ↓gg_t, ↓gg_ix, ↓gs_nil, ↓gs_cons, ↓g_tupS, ↓g_lstS, ↓g_lstCS, ↓g_mkL, ↓g_mkC, ↓g_ixT, ↓g_ixL, ↓g_negK, ↓g_asCell, ↓p_nil, ↓p_one, ↓s_pass, ↓s_brk, ↓s_cont, ↓s_never, ↓s_expr, ↓s_ret, ↓s_retN, ↓s_asg, ↓s_par, ↓s_par3, ↓g_rgV, ↓g_rgVK, ↓g_revL, ↓g_revT, ↓s_aug, ↓s_iff, ↓b_add, ↓b_sub, ↓b_mulr, ↓b_mull, ↓b_fdiv, ↓b_mod, ↓b_addLS, ↓b_addTS, ↓q_eqI, ↓q_neI, ↓q_eqB, ↓q_neB, ↓q_lt, ↓q_le, ↓q_gt, ↓q_ge, ↓q_isN, ↓q_isB, ↓q_isnB, ↓isB_b, ↓q_isnN, ↓q_inB, ↓q_notinB, ↓f_lenT, ↓f_lenL, ↓f_int, ↓f_abs, ↓f_max2, ↓f_min2, ↓f_tupleL, ↓f_tupleT, ↓f_listL, ↓f_listT, ↓f_divmod, ↓f_all, ↓f_any, ↓f_sum, ↓a_0, ↓a_1, ↓a_2, ↓t_v, ↓go_cons, ↓go_nil, ↓go_bind, ↓go_pure, ↓go_lookM, ↓go_lookTM, ↓go_truB, ↓go_noneM, ↓go_moveM, ↓go_ite, ↓go_fin, startE, tyB, isNone, Tgs.len, Exs.len, List.map_cons, List.map_nil, List.length_cons, List.length_nil, List.cons_append, List.nil_append, List.take_length, if_true, Bool.not_false, Bool.not_true, List.set_cons_zero, List.set_cons_succ, Nat.reduceAdd, Nat.reduceSub, List.reduceReplicate, Bool.false_eq_true, if_false, reduceIte, and_self, Bool.true_eq_false, decide_true, decide_false]
  refine s31 (by omega) h (by omega) (by omega) fun r3 x2 y2 z2 r30 r31 => ?_
  simp (maxSteps := 2000000) (disch := first | omega | assumption | (simp only [List.length_map, List.length_append, List.length_cons, List.length_nil, List.length_take, List.length_drop, List.length_reverse, List.length_replicate]; omega)) only [↓w_nil, ↓w_cons, ↓g_comp, ↓g_comp2, ↓s_for, ↓s_while, ↓g_non, ↓g_bl, ↓g_int, ↓g_str, ↓g_v, ↓g_g, ↓g_get0, ↓g_gets, ↓g_neg, ↓g_bin, ↓g_cmp, ↓g_cmp2, ↓g_and, ↓g_or, ↓g_not, ↓g_ite, ↓g_call, ↓g_callK, ↓g_bi, ↓g_listC, ↓g_rgT, ↓g_rgL, ↓g_isi, ↓g_isiT, ↓g_tup, ↓g_lst, ↓g_ix, ↓g_sl, ↓g_rev, ↓g_app, ↓g_upper, ↓t_and, ↓t_or, ↓t_not, ↓t_ite, ↓t_bl, ↓t_cmp, ↓t_cmp2, ↓t_call, ↓t_callK, ↓t_bi, ↓t_isi, ↓t_isiT, ↓t_ix, ↓l_nil, ↓l_cons, ↓lt_nil, ↓lt_cons, ↓looks_nil, ↓looks_cons, ↓moves_nil, ↓moves_cons, ↓i_seq, ↓i_rng1, ↓i_rng2, ↓i_enum, ↓i_zip, ↓it_list, ↓it_tuple, ↓it_s, ↓gg_n, ↓gg_t, ↓gg_ix, ↓gs_nil, ↓gs_cons, ↓g_tupS, ↓g_lstS, ↓g_lstCS, ↓g_mkL, ↓g_mkC, ↓g_ixT, ↓g_ixL, ↓g_negK, ↓g_asCell, ↓p_nil, ↓p_one, ↓s_pass, ↓s_brk, ↓s_cont, ↓s_never, ↓s_expr, ↓s_ret, ↓s_retN, ↓s_asg, ↓s_par, ↓s_par3, ↓g_rgV, ↓g_rgVK, ↓g_revL, ↓g_revT, ↓s_aug, ↓s_iff, ↓b_add, ↓b_sub, ↓b_mulr, ↓b_mull, ↓b_fdiv, ↓b_mod, ↓b_addLS, ↓b_addTS, ↓q_eqI, ↓q_neI, ↓q_eqB, ↓q_neB, ↓q_lt, ↓q_le, ↓q_gt, ↓q_ge, ↓q_isN, ↓q_isB, ↓q_isnB, ↓isB_b, ↓q_isnN, ↓q_inB, ↓q_notinB, ↓f_lenT, ↓f_lenL, ↓f_int, ↓f_abs, ↓f_max2, ↓f_min2, ↓f_tupleL, ↓f_tupleT, ↓f_listL, ↓f_listT, ↓f_divmod, ↓f_all, ↓f_any, ↓f_sum, ↓a_0, ↓a_1, ↓a_2, ↓t_v, ↓go_cons, ↓go_nil, ↓go_bind, ↓go_pure, ↓go_lookM, ↓go_lookTM, ↓go_truB, ↓go_noneM, ↓go_moveM, ↓go_ite, ↓go_fin, startE, tyB, isNone, Tgs.len, Exs.len, List.map_cons, List.map_nil, List.length_cons, List.length_nil, List.cons_append, List.nil_append, List.take_length, if_true, Bool.not_false, Bool.not_true, List.set_cons_zero, List.set_cons_succ, Nat.reduceAdd, Nat.reduceSub, List.reduceReplicate, Bool.false_eq_true, if_false, reduceIte, and_self, Bool.true_eq_false, decide_true, decide_false]
  refine s31 (by omega) h (by omega) (by omega) fun r4 x3 y3 z3 r40 r41 => ?_
  simp (maxSteps := 2000000) (disch := first | omega | assumption | (simp only [List.length_map, List.length_append, List.length_cons, List.length_nil, List.length_take, List.length_drop, List.length_reverse, List.length_replicate]; omega)) only [↓w_nil, ↓w_cons, ↓g_comp, ↓g_comp2, ↓s_for, ↓s_while, ↓g_non, ↓g_bl, ↓g_int, ↓g_str, ↓g_v, ↓g_g, ↓g_get0, ↓g_gets, ↓g_neg, ↓g_bin, ↓g_cmp, ↓g_cmp2, ↓g_and, ↓g_or, ↓g_not, ↓g_ite, ↓g_call, ↓g_callK, ↓g_bi, ↓g_listC, ↓g_rgT, ↓g_rgL, ↓g_isi, ↓g_isiT, ↓g_tup, ↓g_lst, ↓g_ix, ↓g_sl, ↓g_rev, ↓g_app, ↓g_upper, ↓t_and, ↓t_or, ↓t_not, ↓t_ite, ↓t_bl, ↓t_cmp, ↓t_cmp2, ↓t_call, ↓t_callK, ↓t_bi, ↓t_isi, ↓t_isiT, ↓t_ix, ↓l_nil, ↓l_cons, ↓lt_nil, ↓lt_cons, ↓looks_nil, ↓looks_cons, ↓moves_nil, ↓moves_cons, ↓i_seq, ↓i_rng1, ↓i_rng2, ↓i_enum, ↓i_zip, ↓it_list, ↓it_tuple, ↓it_s, ↓gg_n, ↓gg_t, ↓gg_ix, ↓gs_nil, ↓gs_cons, ↓g_tupS, ↓g_lstS, ↓g_lstCS, ↓g_mkL, ↓g_mkC, ↓g_ixT, ↓g_ixL, ↓g_negK, ↓g_asCell, ↓p_nil, ↓p_one, ↓s_pass, ↓s_brk, ↓s_cont, ↓s_never, ↓s_expr, ↓s_ret, ↓s_retN, ↓s_asg, ↓s_par, ↓s_par3, ↓g_rgV, ↓g_rgVK, ↓g_revL, ↓g_revT, ↓s_aug, ↓s_iff, ↓b_add, ↓b_sub, ↓b_mulr, ↓b_mull, ↓b_fdiv, ↓b_mod, ↓b_addLS, ↓b_addTS, ↓q_eqI, ↓q_neI, ↓q_eqB, ↓q_neB, ↓q_lt, ↓q_le, ↓q_gt, ↓q_ge, ↓q_isN, ↓q_isB, ↓q_isnB, ↓isB_b, ↓q_isnN, ↓q_inB, ↓q_notinB, ↓f_lenT, ↓f_lenL, ↓f_int, ↓f_abs, ↓f_max2, ↓f_min2, ↓f_tupleL, ↓f_tupleT, ↓f_listL, ↓f_listT, ↓f_divmod, ↓f_all, ↓f_any, ↓f_sum, ↓a_0, ↓a_1, ↓a_2, ↓t_v, ↓go_cons, ↓go_nil, ↓go_bind, ↓go_pure, ↓go_lookM, ↓go_lookTM, ↓go_truB, ↓go_noneM, ↓go_moveM, ↓go_ite, ↓go_fin, startE, tyB, isNone, Tgs.len, Exs.len, List.map_cons, List.map_nil, List.length_cons, List.length_nil, List.cons_append, List.nil_append, List.take_length, if_true, Bool.not_false, Bool.not_true, List.set_cons_zero, List.set_cons_succ, Nat.reduceAdd, Nat.reduceSub, List.reduceReplicate, Bool.false_eq_true, if_false, reduceIte, and_self, Bool.true_eq_false, decide_true, decide_false]
  refine s31 (by omega) h (by omega) (by omega) fun r5 x3 y3 z3 r50 r51 => ?_
  simp (maxSteps := 2000000) (disch := first | omega | assumption | (simp only [List.length_map, List.length_append, List.length_cons, List.length_nil, List.length_take, List.length_drop, List.length_reverse, List.length_replicate]; omega)) only [g_tupK (xs := [_, _, _, _]) (big 4 (by decide)), ↓w_nil, ↓w_cons, ↓g_comp, ↓g_comp2, ↓s_for, ↓s_while, ↓g_non, ↓g_bl, ↓g_int, ↓g_str, ↓g_v, ↓g_g, ↓g_get0, ↓g_gets, ↓g_neg, ↓g_bin, ↓g_cmp, ↓g_cmp2, ↓g_and, ↓g_or, ↓g_not, ↓g_ite, ↓g_call, ↓g_callK, ↓g_bi, ↓g_listC, ↓g_rgT, ↓g_rgL, ↓g_isi, ↓g_isiT, ↓g_tup, ↓g_lst, ↓g_ix, ↓g_sl, ↓g_rev, ↓g_app, ↓g_upper, ↓t_and, ↓t_or, ↓t_not, ↓t_ite, ↓t_bl, ↓t_cmp, ↓t_cmp2, ↓t_call, ↓t_callK, ↓t_bi, ↓t_isi, ↓t_isiT, ↓t_ix, ↓l_nil, ↓l_cons, ↓lt_nil, ↓lt_cons, ↓looks_nil, ↓looks_cons, ↓moves_nil, ↓moves_cons, ↓i_seq, ↓i_rng1, ↓i_rng2, ↓i_enum, ↓i_zip, ↓it_list, ↓it_tuple, ↓it_s, ↓gg_n, ↓gg_t, ↓gg_ix, ↓gs_nil, ↓gs_cons, ↓g_tupS, ↓g_lstS, ↓g_lstCS, ↓g_mkL, ↓g_mkC, ↓g_ixT, ↓g_ixL, ↓g_negK, ↓g_asCell, ↓p_nil, ↓p_one, ↓s_pass, ↓s_brk, ↓s_cont, ↓s_never, ↓s_expr, ↓s_ret, ↓s_retN, ↓s_asg, ↓s_par, ↓s_par3, ↓g_rgV, ↓g_rgVK, ↓g_revL, ↓g_revT, ↓s_aug, ↓s_iff, ↓b_add, ↓b_sub, ↓b_mulr, ↓b_mull, ↓b_fdiv, ↓b_mod, ↓b_addLS, ↓b_addTS, ↓q_eqI, ↓q_neI, ↓q_eqB, ↓q_neB, ↓q_lt, ↓q_le, ↓q_gt, ↓q_ge, ↓q_isN, ↓q_isB, ↓q_isnB, ↓isB_b, ↓q_isnN, ↓q_inB, ↓q_notinB, ↓f_lenT, ↓f_lenL, ↓f_int, ↓f_abs, ↓f_max2, ↓f_min2, ↓f_tupleL, ↓f_tupleT, ↓f_listL, ↓f_listT, ↓f_divmod, ↓f_all, ↓f_any, ↓f_sum, ↓a_0, ↓a_1, ↓a_2, ↓t_v, ↓go_cons, ↓go_nil, ↓go_bind, ↓go_pure, ↓go_lookM, ↓go_lookTM, ↓go_truB, ↓go_noneM, ↓go_moveM, ↓go_ite, ↓go_fin, startE, tyB, isNone, Tgs.len, Exs.len, List.map_cons, List.map_nil, List.length_cons, List.length_nil, List.cons_append, List.nil_append, List.take_length, if_true, Bool.not_false, Bool.not_true, List.set_cons_zero, List.set_cons_succ, Nat.reduceAdd, Nat.reduceSub, List.reduceReplicate, Bool.false_eq_true, if_false, reduceIte, and_self, Bool.true_eq_false, decide_true, decide_false]
  refine s32 (by omega) h (by simp) (by simp) fun e x5 y5 z5 he => ?_
  obtain ⟨w, rfl, w0, w1⟩ : ∃ w, e = .int w ∧ 0 ≤ w ∧ w ≤ 60 := by
    simp only [List.mem_cons, List.not_mem_nil, or_false] at he
    rcases he with rfl | rfl | rfl | rfl
    · exact ⟨_, rfl, by omega, by omega⟩
    · exact ⟨_, rfl, by omega, by omega⟩
    · exact ⟨_, rfl, by omega, by omega⟩
    · exact ⟨_, rfl, by omega, by omega⟩
  simp (maxSteps := 2000000) (disch := first | omega | assumption | (simp only [List.length_map, List.length_append, List.length_cons, List.length_nil, List.length_take, List.length_drop, List.length_reverse, List.length_replicate]; omega)) only [g_tupK (xs := [_, _]) (big 2 (by decide)), U_take, ↓w_nil, ↓w_cons, ↓g_comp, ↓g_comp2, ↓s_for, ↓s_while, ↓g_non, ↓g_bl, ↓g_int, ↓g_str, ↓g_v, ↓g_g, ↓g_get0, ↓g_gets, ↓g_neg, ↓g_bin, ↓g_cmp, ↓g_cmp2, ↓g_and, ↓g_or, ↓g_not, ↓g_ite, ↓g_call, ↓g_callK, ↓g_bi, ↓g_listC, ↓g_rgT, ↓g_rgL, ↓g_isi, ↓g_isiT, ↓g_tup, ↓g_lst, ↓g_ix, ↓g_sl, ↓g_rev, ↓g_app, ↓g_upper, ↓t_and, ↓t_or, ↓t_not, ↓t_ite, ↓t_bl, ↓t_cmp, ↓t_cmp2, ↓t_call, ↓t_callK, ↓t_bi, ↓t_isi, ↓t_isiT, ↓t_ix, ↓l_nil, ↓l_cons, ↓lt_nil, ↓lt_cons, ↓looks_nil, ↓looks_cons, ↓moves_nil, ↓moves_cons, ↓i_seq, ↓i_rng1, ↓i_rng2, ↓i_enum, ↓i_zip, ↓it_list, ↓it_tuple, ↓it_s, ↓gg_n, ↓gg_t, ↓gg_ix, ↓gs_nil, ↓gs_cons, ↓g_tupS, ↓g_lstS, ↓g_lstCS, ↓g_mkL, ↓g_mkC, ↓g_ixT, ↓g_ixL, ↓g_negK, ↓g_asCell, ↓p_nil, ↓p_one, ↓s_pass, ↓s_brk, ↓s_cont, ↓s_never, ↓s_expr, ↓s_ret, ↓s_retN, ↓s_asg, ↓s_par, ↓s_par3, ↓g_rgV, ↓g_rgVK, ↓g_revL, ↓g_revT, ↓s_aug, ↓s_iff, ↓b_add, ↓b_sub, ↓b_mulr, ↓b_mull, ↓b_fdiv, ↓b_mod, ↓b_addLS, ↓b_addTS, ↓q_eqI, ↓q_neI, ↓q_eqB, ↓q_neB, ↓q_lt, ↓q_le, ↓q_gt, ↓q_ge, ↓q_isN, ↓q_isB, ↓q_isnB, ↓isB_b, ↓q_isnN, ↓q_inB, ↓q_notinB, ↓f_lenT, ↓f_lenL, ↓f_int, ↓f_abs, ↓f_max2, ↓f_min2, ↓f_tupleL, ↓f_tupleT, ↓f_listL, ↓f_listT, ↓f_divmod, ↓f_all, ↓f_any, ↓f_sum, ↓a_0, ↓a_1, ↓a_2, ↓t_v, ↓go_cons, ↓go_nil, ↓go_bind, ↓go_pure, ↓go_lookM, ↓go_lookTM, ↓go_truB, ↓go_noneM, ↓go_moveM, ↓go_ite, ↓go_fin, startE, tyB, isNone, Tgs.len, Exs.len, List.map_cons, List.map_nil, List.length_cons, List.length_nil, List.cons_append, List.nil_append, List.take_length, if_true, Bool.not_false, Bool.not_true, List.set_cons_zero, List.set_cons_succ, Nat.reduceAdd, Nat.reduceSub, List.reduceReplicate, Bool.false_eq_true, if_false, reduceIte, and_self, Bool.true_eq_false, decide_true, decide_false]
  exact hq a _ _ _ _ ⟨a0, by omega, by omega⟩ (by omega)
/-! the same, by the law's own reckoning -/
end
end RL

set_option Elab.async false
set_option linter.all false
set_option maxRecDepth 100000
set_option maxHeartbeats 4000000
namespace RL
open PySem PySem.Spec PyProof.Rows L2
/-! ### tails: mathematics -/
section
variable {pl ql : Pl} {a b t : Int}
theorem div_shift {d p t : Int} (h1 : 1 ≤ p) (h : p ∣ t) : (d + t) / p * p = d / p * p + t := by
  obtain ⟨k, rfl⟩ := h
  rw [Int.add_mul_ediv_left _ _ (by omega), Int.add_mul, Int.mul_comm k p]
theorem tl_shift {p : Int × Int} (h1 : 1 ≤ p.1) (h : p.1 ∣ t) : tl (a + t) (b + t) p = tl a b p := by
  unfold tl
  have e := div_shift (d := b - 1) h1 h
  rw [show b + t - 1 = b - 1 + t by omega, e]
  by_cases hc : a ≤ (b - 1) / p.1 * p.1
  · rw [if_pos hc, if_pos (by omega)]
    congr 1
    omega
  · rw [if_neg hc, if_neg (by omega)]
theorem tail_shift (h : Pok pl) (ht : ∀ p ∈ pl, p.1 ∣ t) : tail' pl (a + t) (b + t) = tail' pl a b := by
  unfold tail' tls
  congr 1
  have key : ∀ l : Pl, (∀ p ∈ l, 1 ≤ p.1 ∧ p.1 ∣ t) → l.flatMap (tl (a + t) (b + t)) = l.flatMap (tl a b) := by
    intro l
    induction l with
    | nil => intro _; rfl
    | cons p l ih =>
      intro hp
      rw [List.flatMap_cons, List.flatMap_cons, ih fun q hq => hp q (List.mem_cons_of_mem _ hq), tl_shift (hp p List.mem_cons_self).1 (hp p List.mem_cons_self).2]
  exact key pl fun p hp => ⟨(h.all p hp).1, ht p hp⟩
theorem last_far {d p : Int} (h1 : 1 ≤ p) (h2 : p ≤ 10) : d - 9 ≤ d / p * p := by
  have e := Int.emod_add_ediv_mul d p
  have := Int.emod_lt_of_pos d (show 0 < p by omega)
  omega
theorem tail_far (h : Pok pl) (ha : a ≤ b - 10) : tail' pl a b = tail' pl (b - 10) b := by
  unfold tail' tls
  congr 1
  have key : ∀ l : Pl, (∀ p ∈ l, 1 ≤ p.1 ∧ p.1 ≤ 10) → l.flatMap (tl a b) = l.flatMap (tl (b - 10) b) := by
    intro l
    induction l with
    | nil => intro _; rfl
    | cons p l ih =>
      intro hp
      rw [List.flatMap_cons, List.flatMap_cons, ih fun q hq => hp q (List.mem_cons_of_mem _ hq)]
      congr 1
      have := last_far (d := b - 1) (hp p List.mem_cons_self).1 (hp p List.mem_cons_self).2
      unfold tl
      rw [if_pos (by omega), if_pos (by omega)]
  exact key pl fun p hp => ⟨(h.all p hp).1, (h.all p hp).2.1⟩
theorem tail_sub (h : ∀ p ∈ pl, p ∈ ql) : tail' pl a b ≤ tail' ql a b := by
  rcases tail_or (pl := pl) (a := a) (b := b) with e | ⟨p, hp, h1, e⟩
  · rw [e]; exact tail_nn
  · rw [e]; exact tail_ge (h p hp) h1
end
/-! periods -/
def gcdI (a b : Int) : Int := (Int.gcd a b : Int)
def perS (P : Int) (p : Int × Int) : Int := P / gcdI P p.1 * p.1
def per (l : Pl) : Int := l.foldl perS 1
structure PerOk (P : Int) : Prop where
  pos : 1 ≤ P
  dvd : P ∣ 2520
theorem PerOk.le {P : Int} (h : PerOk P) : P ≤ 2520 := Int.le_of_dvd (by decide) h.dvd
theorem perS_lcm {P s : Int} (hP : 1 ≤ P) (hs : 1 ≤ s) : P / gcdI P s * s = (Nat.lcm P.toNat s.toNat : Int) := by
  obtain ⟨m, rfl⟩ := Int.eq_ofNat_of_zero_le (show 0 ≤ P by omega)
  obtain ⟨n, rfl⟩ := Int.eq_ofNat_of_zero_le (show 0 ≤ s by omega)
  unfold gcdI Nat.lcm
  rw [Int.gcd_natCast_natCast, ← Int.natCast_ediv, ← Int.natCast_mul, Int.toNat_natCast, Int.toNat_natCast, Nat.div_mul_right_comm (Nat.gcd_dvd_left m n)]
theorem dvd_nat {a b : Int} (ha : 0 ≤ a) (hb : 0 ≤ b) : a ∣ b ↔ a.toNat ∣ b.toNat := by
  obtain ⟨m, rfl⟩ := Int.eq_ofNat_of_zero_le ha
  obtain ⟨n, rfl⟩ := Int.eq_ofNat_of_zero_le hb
  rw [Int.toNat_natCast, Int.toNat_natCast, Int.natCast_dvd_natCast]
theorem perS_ok {P : Int} {p : Int × Int} (h : PerOk P) (h1 : 1 ≤ p.1) (h2 : p.1 ≤ 10) : PerOk (perS P p) ∧ P ∣ perS P p ∧ p.1 ∣ perS P p := by
  have hs : p.1 ∣ 2520 := by
    have : p.1 = 1 ∨ p.1 = 2 ∨ p.1 = 3 ∨ p.1 = 4 ∨ p.1 = 5 ∨ p.1 = 6 ∨ p.1 = 7 ∨ p.1 = 8 ∨ p.1 = 9 ∨ p.1 = 10 := by omega
    rcases this with e | e | e | e | e | e | e | e | e | e <;> rw [e] <;> decide
  have e := perS_lcm h.pos h1
  have hP := h.pos
  have d1 := (dvd_nat (by omega) (by decide)).mp h.dvd
  have d2 := (dvd_nat (by omega) (by decide)).mp hs
  have d3 : Nat.lcm P.toNat p.1.toNat ∣ (2520 : Int).toNat := Nat.lcm_dvd d1 d2
  have pos : 0 < Nat.lcm P.toNat p.1.toNat := Nat.lcm_pos (by omega) (by omega)
  unfold perS
  rw [e]
  refine ⟨⟨by omega, ?_⟩, ?_, ?_⟩
  · rw [dvd_nat (by omega) (by decide), Int.toNat_natCast]; exact d3
  · rw [dvd_nat (by omega) (by omega), Int.toNat_natCast]; exact Nat.dvd_lcm_left _ _
  · rw [dvd_nat (by omega) (by omega), Int.toNat_natCast]; exact Nat.dvd_lcm_right _ _
theorem per_go : ∀ (l : Pl) (P : Int), PerOk P → (∀ p ∈ l, 1 ≤ p.1 ∧ p.1 ≤ 10) → PerOk (l.foldl perS P) ∧ P ∣ l.foldl perS P ∧ ∀ p ∈ l, p.1 ∣ l.foldl perS P
  | [], P, h, _ => ⟨h, Int.dvd_refl _, fun _ z => by cases z⟩
  | p :: l, P, h, hl => by
    obtain ⟨q1, q2, q3⟩ := perS_ok h (hl p List.mem_cons_self).1 (hl p List.mem_cons_self).2
    obtain ⟨r1, r2, r3⟩ := per_go l (perS P p) q1 fun q hq => hl q (List.mem_cons_of_mem _ hq)
    refine ⟨r1, Int.dvd_trans q2 r2, fun q hq => ?_⟩
    rcases List.mem_cons.mp hq with e | hq
    · subst e; exact Int.dvd_trans q3 r2
    · exact r3 q hq
theorem per_ok {l : Pl} (h : ∀ p ∈ l, 1 ≤ p.1 ∧ p.1 ≤ 10) : PerOk (per l) ∧ ∀ p ∈ l, p.1 ∣ per l :=
  let ⟨h1, _, h3⟩ := per_go l 1 ⟨by decide, by decide⟩ h
  ⟨h1, h3⟩
theorem per_app (l m : Pl) : per (l ++ m) = m.foldl perS (per l) := by unfold per; rw [List.foldl_append]
/-! windows -/
def win (P : Int) : List (Int × Int) := (days 10 (10 + P)).flatMap fun l => (days 1 11).map fun d => (l + 1 - d, l + 1)
theorem win_mem {P a b : Int} : (a, b) ∈ win P ↔ 11 ≤ b ∧ b < 11 + P ∧ 1 ≤ b - a ∧ b - a ≤ 10 := by
  unfold win
  rw [List.mem_flatMap]
  constructor
  · rintro ⟨l, hl, h⟩
    obtain ⟨d, hd, e⟩ := List.mem_map.mp h
    have := days_mem.mp hl
    have := days_mem.mp hd
    injection e with e1 e2
    omega
  · rintro ⟨h1, h2, h3, h4⟩
    exact ⟨b - 1, days_mem.mpr ⟨by omega, by omega⟩, List.mem_map.mpr ⟨b - a, days_mem.mpr ⟨by omega, by omega⟩, by rw [Prod.mk.injEq]; omega⟩⟩
def isLg (p q : Pl) (s : Int × Int) : Bool := decide (tail' q s.1 s.2 < tail' p s.1 s.2)
def lg (p q : Pl) : Option (Int × Int) := (win (per (p ++ q))).find? (isLg p q)
section
variable {p q : Pl}
theorem Pok.steps (h : Pok p) : ∀ x ∈ p, 1 ≤ x.1 ∧ x.1 ≤ 10 := fun x hx => ⟨(h.all x hx).1, (h.all x hx).2.1⟩
theorem steps2 (hp : Pok p) (hq : Pok q) : ∀ x ∈ p ++ q, 1 ≤ x.1 ∧ x.1 ≤ 10 := fun x hx => (List.mem_append.mp hx).elim (hp.steps x) (hq.steps x)
theorem lg_some {a b : Int} (h : lg p q = some (a, b)) : (a, b) ∈ win (per (p ++ q)) ∧ tail' q a b < tail' p a b :=
  ⟨List.mem_of_find?_eq_some h, by have := List.find?_some h; exact of_decide_eq_true this⟩
theorem lg_none (hp : Pok p) (hq : Pok q) : lg p q = none ↔ ∀ a b, a < b → tail' p a b ≤ tail' q a b := by
  constructor
  · intro h a b hab
    obtain ⟨P, hP⟩ : ∃ P, P = per (p ++ q) := ⟨_, rfl⟩
    obtain ⟨k1, k2⟩ := per_ok (steps2 hp hq)
    rw [← hP] at k1 k2
    have key : ∀ a b, 1 ≤ b - a → b - a ≤ 10 → tail' p a b ≤ tail' q a b := by
      intro a b h1 h2
      have hpos := k1.pos
      obtain ⟨t, ht⟩ : ∃ t, t = 11 + (b - 11) % P - b := ⟨_, rfl⟩
      have m1 := Int.emod_nonneg (b - 11) (show P ≠ 0 by omega)
      have m2 := Int.emod_lt_of_pos (b - 11) (show 0 < P by omega)
      have dt : P ∣ t := by
        have e := Int.emod_add_ediv_mul (b - 11) P
        exact ⟨-((b - 11) / P), by rw [Int.mul_neg, Int.mul_comm]; omega⟩
      have e1 := tail_shift (a := a) (b := b) hp fun x hx => Int.dvd_trans (k2 x (List.mem_append_left _ hx)) dt
      have e2 := tail_shift (a := a) (b := b) hq fun x hx => Int.dvd_trans (k2 x (List.mem_append_right _ hx)) dt
      have hm : (a + t, b + t) ∈ win P := win_mem.mpr ⟨by omega, by omega, by omega, by omega⟩
      rw [hP] at hm
      have := List.find?_eq_none.mp h _ hm
      have : ¬ tail' q (a + t) (b + t) < tail' p (a + t) (b + t) := fun z => this (decide_eq_true z)
      omega
    by_cases hl : b - a ≤ 10
    · exact key a b (by omega) hl
    · rw [tail_far hp (by omega), tail_far hq (by omega)]
      exact key _ _ (by omega) (by omega)
  · intro h
    apply List.find?_eq_none.mpr
    rintro ⟨a, b⟩ hm z
    have := win_mem.mp hm
    have := h a b (by omega)
    have z : tail' q a b < tail' p a b := of_decide_eq_true z
    omega
theorem lg_sub (hp : Pok p) (hq : Pok q) (h : ∀ x ∈ p, x ∈ q) : lg p q = none := (lg_none hp hq).mpr fun _ _ _ => tail_sub h
end
end RL

set_option Elab.async false
set_option linter.all false
set_option maxRecDepth 100000
set_option maxHeartbeats 4000000
namespace RL
open PySem PySem.Spec PyProof.Rows L2
theorem gcd_step {u v : Int} (hu : 0 ≤ u) (hv : 0 < v) : gcdI v (u % v) = gcdI u v := by
  obtain ⟨m, rfl⟩ := Int.eq_ofNat_of_zero_le hu
  obtain ⟨k, rfl⟩ := Int.eq_ofNat_of_zero_le (show 0 ≤ v by omega)
  unfold gcdI
  rw [← Int.natCast_emod, Int.gcd_natCast_natCast, Int.gcd_natCast_natCast, Nat.gcd_comm m k, Nat.gcd_rec k m, Nat.gcd_comm]
theorem gcd_zero {u : Int} (hu : 0 ≤ u) : gcdI u 0 = u := by
  obtain ⟨m, rfl⟩ := Int.eq_ofNat_of_zero_le hu
  unfold gcdI
  simp
theorem gcd_bd {u v : Int} (hu : 1 ≤ u) (hv : 1 ≤ v) : 1 ≤ gcdI u v ∧ gcdI u v ≤ v := by
  obtain ⟨m, rfl⟩ := Int.eq_ofNat_of_zero_le (show 0 ≤ u by omega)
  obtain ⟨k, rfl⟩ := Int.eq_ofNat_of_zero_le (show 0 ≤ v by omega)
  unfold gcdI
  rw [Int.gcd_natCast_natCast]
  have := Nat.gcd_pos_of_pos_left k (show 0 < m by omega)
  have := Nat.le_of_dvd (show 0 < k by omega) (Nat.gcd_dvd_right m k)
  omega
def optD : Option (Int × Int) → D
  | none => .none
  | some s => pD s
section
variable {n : Nat} {st : Sto} {i j k : Int} {Q : Val → Sto → Prop}
theorem s16 (hn : 1 ≤ n) (h1 : 0 ≤ i) (h2 : 0 ≤ j) (h3 : j ≤ 100000) (hq : Q (.d (.int (gcdI i j))) st) : Go (callN pr n 16 [.d (.int i), .d (.int j)]) st Q := by
  obtain ⟨m, rfl⟩ : ∃ m, n = m + 1 := ⟨n - 1, by omega⟩
  rw [go_call (fi := f16) rfl rfl]
  simp (maxSteps := 2000000) (disch := first | omega | assumption | (simp only [List.length_map, List.length_append, List.length_cons, List.length_nil, List.length_take, List.length_drop, List.length_reverse, List.length_replicate]; omega)) only [f16, ↓w_nil, ↓w_cons, ↓g_comp, ↓g_comp2, ↓s_for, ↓s_while, ↓g_non, ↓g_bl, ↓g_int, ↓g_str, ↓g_v, ↓g_g, ↓g_get0, ↓g_gets, ↓g_neg, ↓g_bin, ↓g_cmp, ↓g_cmp2, ↓g_and, ↓g_or, ↓g_not, ↓g_ite, ↓g_call, ↓g_callK, ↓g_bi, ↓g_listC, ↓g_rgT, ↓g_rgL, ↓g_isi, ↓g_isiT, ↓g_tup, ↓g_lst, ↓g_ix, ↓g_sl, ↓g_rev, ↓g_app, ↓g_upper, ↓t_and, ↓t_or, ↓t_not, ↓t_ite, ↓t_bl, ↓t_cmp, ↓t_cmp2, ↓t_call, ↓t_callK, ↓t_bi, ↓t_isi, ↓t_isiT, ↓t_ix, ↓l_nil, ↓l_cons, ↓lt_nil, ↓lt_cons, ↓looks_nil, ↓looks_cons, ↓moves_nil, ↓moves_cons, ↓i_seq, ↓i_rng1, ↓i_rng2, ↓i_enum, ↓i_zip, ↓it_list, ↓it_tuple, ↓it_s, ↓gg_n, ↓gg_t, ↓gg_ix, ↓gs_nil, ↓gs_cons, ↓g_tupS, ↓g_lstS, ↓g_lstCS, ↓g_mkL, ↓g_mkC, ↓g_ixT, ↓g_ixL, ↓g_negK, ↓g_asCell, ↓p_nil, ↓p_one, ↓s_pass, ↓s_brk, ↓s_cont, ↓s_never, ↓s_expr, ↓s_ret, ↓s_retN, ↓s_asg, ↓s_par, ↓s_par3, ↓g_rgV, ↓g_rgVK, ↓g_revL, ↓g_revT, ↓s_aug, ↓s_iff, ↓b_add, ↓b_sub, ↓b_mulr, ↓b_mull, ↓b_fdiv, ↓b_mod, ↓b_addLS, ↓b_addTS, ↓q_eqI, ↓q_neI, ↓q_eqB, ↓q_neB, ↓q_lt, ↓q_le, ↓q_gt, ↓q_ge, ↓q_isN, ↓q_isB, ↓q_isnB, ↓isB_b, ↓q_isnN, ↓q_inB, ↓q_notinB, ↓f_lenT, ↓f_lenL, ↓f_int, ↓f_abs, ↓f_max2, ↓f_min2, ↓f_tupleL, ↓f_tupleT, ↓f_listL, ↓f_listT, ↓f_divmod, ↓f_all, ↓f_any, ↓f_sum, ↓a_0, ↓a_1, ↓a_2, ↓t_v, ↓go_cons, ↓go_nil, ↓go_bind, ↓go_pure, ↓go_lookM, ↓go_lookTM, ↓go_truB, ↓go_noneM, ↓go_moveM, ↓go_ite, ↓go_fin, startE, tyB, isNone, Tgs.len, Exs.len, List.map_cons, List.map_nil, List.length_cons, List.length_nil, List.cons_append, List.nil_append, List.take_length, if_true, Bool.not_false, Bool.not_true, List.set_cons_zero, List.set_cons_succ, Nat.reduceAdd, Nat.reduceSub, List.reduceReplicate, Bool.false_eq_true, if_false, reduceIte, and_self, Bool.true_eq_false, decide_true, decide_false]
  refine go_whileL (fun k ρ s => ∃ u v, k = v.toNat ∧ 0 ≤ u ∧ 0 ≤ v ∧ gcdI u v = gcdI i j ∧ ρ = [some (.d (.int i)), some (.d (.int j)), some (.d (.int u)), some (.d (.int v))] ∧ s = st) ?_ _ j.toNat _ _ (by omega) ⟨i, j, rfl, h1, h2, rfl, rfl, rfl⟩
  rintro k ρ s ⟨u, v, rfl, hu, hv, hg, rfl, rfl⟩
  simp (maxSteps := 2000000) (disch := first | omega | assumption | (simp only [List.length_map, List.length_append, List.length_cons, List.length_nil, List.length_take, List.length_drop, List.length_reverse, List.length_replicate]; omega)) only [↓w_nil, ↓w_cons, ↓g_comp, ↓g_comp2, ↓s_for, ↓s_while, ↓g_non, ↓g_bl, ↓g_int, ↓g_str, ↓g_v, ↓g_g, ↓g_get0, ↓g_gets, ↓g_neg, ↓g_bin, ↓g_cmp, ↓g_cmp2, ↓g_and, ↓g_or, ↓g_not, ↓g_ite, ↓g_call, ↓g_callK, ↓g_bi, ↓g_listC, ↓g_rgT, ↓g_rgL, ↓g_isi, ↓g_isiT, ↓g_tup, ↓g_lst, ↓g_ix, ↓g_sl, ↓g_rev, ↓g_app, ↓g_upper, ↓t_and, ↓t_or, ↓t_not, ↓t_ite, ↓t_bl, ↓t_cmp, ↓t_cmp2, ↓t_call, ↓t_callK, ↓t_bi, ↓t_isi, ↓t_isiT, ↓t_ix, ↓l_nil, ↓l_cons, ↓lt_nil, ↓lt_cons, ↓looks_nil, ↓looks_cons, ↓moves_nil, ↓moves_cons, ↓i_seq, ↓i_rng1, ↓i_rng2, ↓i_enum, ↓i_zip, ↓it_list, ↓it_tuple, ↓it_s, ↓gg_n, ↓gg_t, ↓gg_ix, ↓gs_nil, ↓gs_cons, ↓g_tupS, ↓g_lstS, ↓g_lstCS, ↓g_mkL, ↓g_mkC, ↓g_ixT, ↓g_ixL, ↓g_negK, ↓g_asCell, ↓p_nil, ↓p_one, ↓s_pass, ↓s_brk, ↓s_cont, ↓s_never, ↓s_expr, ↓s_ret, ↓s_retN, ↓s_asg, ↓s_par, ↓s_par3, ↓g_rgV, ↓g_rgVK, ↓g_revL, ↓g_revT, ↓s_aug, ↓s_iff, ↓b_add, ↓b_sub, ↓b_mulr, ↓b_mull, ↓b_fdiv, ↓b_mod, ↓b_addLS, ↓b_addTS, ↓q_eqI, ↓q_neI, ↓q_eqB, ↓q_neB, ↓q_lt, ↓q_le, ↓q_gt, ↓q_ge, ↓q_isN, ↓q_isB, ↓q_isnB, ↓isB_b, ↓q_isnN, ↓q_inB, ↓q_notinB, ↓f_lenT, ↓f_lenL, ↓f_int, ↓f_abs, ↓f_max2, ↓f_min2, ↓f_tupleL, ↓f_tupleT, ↓f_listL, ↓f_listT, ↓f_divmod, ↓f_all, ↓f_any, ↓f_sum, ↓a_0, ↓a_1, ↓a_2, ↓t_v, ↓go_cons, ↓go_nil, ↓go_bind, ↓go_pure, ↓go_lookM, ↓go_lookTM, ↓go_truB, ↓go_noneM, ↓go_moveM, ↓go_ite, ↓go_fin, startE, tyB, isNone, Tgs.len, Exs.len, List.map_cons, List.map_nil, List.length_cons, List.length_nil, List.cons_append, List.nil_append, List.take_length, if_true, Bool.not_false, Bool.not_true, List.set_cons_zero, List.set_cons_succ, Nat.reduceAdd, Nat.reduceSub, List.reduceReplicate, Bool.false_eq_true, if_false, reduceIte, and_self, Bool.true_eq_false, decide_true, decide_false]
  by_cases hc : 0 < v
  · simp (maxSteps := 2000000) (disch := first | omega | assumption | (simp only [List.length_map, List.length_append, List.length_cons, List.length_nil, List.length_take, List.length_drop, List.length_reverse, List.length_replicate]; omega)) only [hc, ↓w_nil, ↓w_cons, ↓g_comp, ↓g_comp2, ↓s_for, ↓s_while, ↓g_non, ↓g_bl, ↓g_int, ↓g_str, ↓g_v, ↓g_g, ↓g_get0, ↓g_gets, ↓g_neg, ↓g_bin, ↓g_cmp, ↓g_cmp2, ↓g_and, ↓g_or, ↓g_not, ↓g_ite, ↓g_call, ↓g_callK, ↓g_bi, ↓g_listC, ↓g_rgT, ↓g_rgL, ↓g_isi, ↓g_isiT, ↓g_tup, ↓g_lst, ↓g_ix, ↓g_sl, ↓g_rev, ↓g_app, ↓g_upper, ↓t_and, ↓t_or, ↓t_not, ↓t_ite, ↓t_bl, ↓t_cmp, ↓t_cmp2, ↓t_call, ↓t_callK, ↓t_bi, ↓t_isi, ↓t_isiT, ↓t_ix, ↓l_nil, ↓l_cons, ↓lt_nil, ↓lt_cons, ↓looks_nil, ↓looks_cons, ↓moves_nil, ↓moves_cons, ↓i_seq, ↓i_rng1, ↓i_rng2, ↓i_enum, ↓i_zip, ↓it_list, ↓it_tuple, ↓it_s, ↓gg_n, ↓gg_t, ↓gg_ix, ↓gs_nil, ↓gs_cons, ↓g_tupS, ↓g_lstS, ↓g_lstCS, ↓g_mkL, ↓g_mkC, ↓g_ixT, ↓g_ixL, ↓g_negK, ↓g_asCell, ↓p_nil, ↓p_one, ↓s_pass, ↓s_brk, ↓s_cont, ↓s_never, ↓s_expr, ↓s_ret, ↓s_retN, ↓s_asg, ↓s_par, ↓s_par3, ↓g_rgV, ↓g_rgVK, ↓g_revL, ↓g_revT, ↓s_aug, ↓s_iff, ↓b_add, ↓b_sub, ↓b_mulr, ↓b_mull, ↓b_fdiv, ↓b_mod, ↓b_addLS, ↓b_addTS, ↓q_eqI, ↓q_neI, ↓q_eqB, ↓q_neB, ↓q_lt, ↓q_le, ↓q_gt, ↓q_ge, ↓q_isN, ↓q_isB, ↓q_isnB, ↓isB_b, ↓q_isnN, ↓q_inB, ↓q_notinB, ↓f_lenT, ↓f_lenL, ↓f_int, ↓f_abs, ↓f_max2, ↓f_min2, ↓f_tupleL, ↓f_tupleT, ↓f_listL, ↓f_listT, ↓f_divmod, ↓f_all, ↓f_any, ↓f_sum, ↓a_0, ↓a_1, ↓a_2, ↓t_v, ↓go_cons, ↓go_nil, ↓go_bind, ↓go_pure, ↓go_lookM, ↓go_lookTM, ↓go_truB, ↓go_noneM, ↓go_moveM, ↓go_ite, ↓go_fin, startE, tyB, isNone, Tgs.len, Exs.len, List.map_cons, List.map_nil, List.length_cons, List.length_nil, List.cons_append, List.nil_append, List.take_length, if_true, Bool.not_false, Bool.not_true, List.set_cons_zero, List.set_cons_succ, Nat.reduceAdd, Nat.reduceSub, List.reduceReplicate, Bool.false_eq_true, if_false, reduceIte, and_self, Bool.true_eq_false, decide_true, decide_false]
    have := Int.emod_lt_of_pos u hc
    have := Int.emod_nonneg u (show v ≠ 0 by omega)
    exact ⟨_, by omega, v, u % v, rfl, by omega, by omega, by rw [gcd_step hu hc, hg], rfl, trivial⟩
  · simp (maxSteps := 2000000) (disch := first | omega | assumption | (simp only [List.length_map, List.length_append, List.length_cons, List.length_nil, List.length_take, List.length_drop, List.length_reverse, List.length_replicate]; omega)) only [hc, ↓w_nil, ↓w_cons, ↓g_comp, ↓g_comp2, ↓s_for, ↓s_while, ↓g_non, ↓g_bl, ↓g_int, ↓g_str, ↓g_v, ↓g_g, ↓g_get0, ↓g_gets, ↓g_neg, ↓g_bin, ↓g_cmp, ↓g_cmp2, ↓g_and, ↓g_or, ↓g_not, ↓g_ite, ↓g_call, ↓g_callK, ↓g_bi, ↓g_listC, ↓g_rgT, ↓g_rgL, ↓g_isi, ↓g_isiT, ↓g_tup, ↓g_lst, ↓g_ix, ↓g_sl, ↓g_rev, ↓g_app, ↓g_upper, ↓t_and, ↓t_or, ↓t_not, ↓t_ite, ↓t_bl, ↓t_cmp, ↓t_cmp2, ↓t_call, ↓t_callK, ↓t_bi, ↓t_isi, ↓t_isiT, ↓t_ix, ↓l_nil, ↓l_cons, ↓lt_nil, ↓lt_cons, ↓looks_nil, ↓looks_cons, ↓moves_nil, ↓moves_cons, ↓i_seq, ↓i_rng1, ↓i_rng2, ↓i_enum, ↓i_zip, ↓it_list, ↓it_tuple, ↓it_s, ↓gg_n, ↓gg_t, ↓gg_ix, ↓gs_nil, ↓gs_cons, ↓g_tupS, ↓g_lstS, ↓g_lstCS, ↓g_mkL, ↓g_mkC, ↓g_ixT, ↓g_ixL, ↓g_negK, ↓g_asCell, ↓p_nil, ↓p_one, ↓s_pass, ↓s_brk, ↓s_cont, ↓s_never, ↓s_expr, ↓s_ret, ↓s_retN, ↓s_asg, ↓s_par, ↓s_par3, ↓g_rgV, ↓g_rgVK, ↓g_revL, ↓g_revT, ↓s_aug, ↓s_iff, ↓b_add, ↓b_sub, ↓b_mulr, ↓b_mull, ↓b_fdiv, ↓b_mod, ↓b_addLS, ↓b_addTS, ↓q_eqI, ↓q_neI, ↓q_eqB, ↓q_neB, ↓q_lt, ↓q_le, ↓q_gt, ↓q_ge, ↓q_isN, ↓q_isB, ↓q_isnB, ↓isB_b, ↓q_isnN, ↓q_inB, ↓q_notinB, ↓f_lenT, ↓f_lenL, ↓f_int, ↓f_abs, ↓f_max2, ↓f_min2, ↓f_tupleL, ↓f_tupleT, ↓f_listL, ↓f_listT, ↓f_divmod, ↓f_all, ↓f_any, ↓f_sum, ↓a_0, ↓a_1, ↓a_2, ↓t_v, ↓go_cons, ↓go_nil, ↓go_bind, ↓go_pure, ↓go_lookM, ↓go_lookTM, ↓go_truB, ↓go_noneM, ↓go_moveM, ↓go_ite, ↓go_fin, startE, tyB, isNone, Tgs.len, Exs.len, List.map_cons, List.map_nil, List.length_cons, List.length_nil, List.cons_append, List.nil_append, List.take_length, if_true, Bool.not_false, Bool.not_true, List.set_cons_zero, List.set_cons_succ, Nat.reduceAdd, Nat.reduceSub, List.reduceReplicate, Bool.false_eq_true, if_false, reduceIte, and_self, Bool.true_eq_false, decide_true, decide_false]
    obtain rfl : v = 0 := by omega
    rw [gcd_zero hu] at hg
    rw [hg]; exact hq
theorem s17 (hn : 2 ≤ n) {s : Int} (h1 : 1 ≤ i) (h2 : 1 ≤ s) (h3 : s ≤ 10) (hq : Q (.d (.int (i / gcdI i s * s))) st) : Go (callN pr n 17 [.d (.int i), .d (.int s)]) st Q := by
  obtain ⟨m, rfl⟩ : ∃ m, n = m + 1 := ⟨n - 1, by omega⟩
  rw [go_call (fi := f17) rfl rfl]
  simp (maxSteps := 2000000) (disch := first | omega | assumption | (simp only [List.length_map, List.length_append, List.length_cons, List.length_nil, List.length_take, List.length_drop, List.length_reverse, List.length_replicate]; omega)) only [f17, ↓w_nil, ↓w_cons, ↓g_comp, ↓g_comp2, ↓s_for, ↓s_while, ↓g_non, ↓g_bl, ↓g_int, ↓g_str, ↓g_v, ↓g_g, ↓g_get0, ↓g_gets, ↓g_neg, ↓g_bin, ↓g_cmp, ↓g_cmp2, ↓g_and, ↓g_or, ↓g_not, ↓g_ite, ↓g_call, ↓g_callK, ↓g_bi, ↓g_listC, ↓g_rgT, ↓g_rgL, ↓g_isi, ↓g_isiT, ↓g_tup, ↓g_lst, ↓g_ix, ↓g_sl, ↓g_rev, ↓g_app, ↓g_upper, ↓t_and, ↓t_or, ↓t_not, ↓t_ite, ↓t_bl, ↓t_cmp, ↓t_cmp2, ↓t_call, ↓t_callK, ↓t_bi, ↓t_isi, ↓t_isiT, ↓t_ix, ↓l_nil, ↓l_cons, ↓lt_nil, ↓lt_cons, ↓looks_nil, ↓looks_cons, ↓moves_nil, ↓moves_cons, ↓i_seq, ↓i_rng1, ↓i_rng2, ↓i_enum, ↓i_zip, ↓it_list, ↓it_tuple, ↓it_s, ↓gg_n, ↓gg_t, ↓gg_ix, ↓gs_nil, ↓gs_cons, ↓g_tupS, ↓g_lstS, ↓g_lstCS, ↓g_mkL, ↓g_mkC, ↓g_ixT, ↓g_ixL, ↓g_negK, ↓g_asCell, ↓p_nil, ↓p_one, ↓s_pass, ↓s_brk, ↓s_cont, ↓s_never, ↓s_expr, ↓s_ret, ↓s_retN, ↓s_asg, ↓s_par, ↓s_par3, ↓g_rgV, ↓g_rgVK, ↓g_revL, ↓g_revT, ↓s_aug, ↓s_iff, ↓b_add, ↓b_sub, ↓b_mulr, ↓b_mull, ↓b_fdiv, ↓b_mod, ↓b_addLS, ↓b_addTS, ↓q_eqI, ↓q_neI, ↓q_eqB, ↓q_neB, ↓q_lt, ↓q_le, ↓q_gt, ↓q_ge, ↓q_isN, ↓q_isB, ↓q_isnB, ↓isB_b, ↓q_isnN, ↓q_inB, ↓q_notinB, ↓f_lenT, ↓f_lenL, ↓f_int, ↓f_abs, ↓f_max2, ↓f_min2, ↓f_tupleL, ↓f_tupleT, ↓f_listL, ↓f_listT, ↓f_divmod, ↓f_all, ↓f_any, ↓f_sum, ↓a_0, ↓a_1, ↓a_2, ↓t_v, ↓go_cons, ↓go_nil, ↓go_bind, ↓go_pure, ↓go_lookM, ↓go_lookTM, ↓go_truB, ↓go_noneM, ↓go_moveM, ↓go_ite, ↓go_fin, startE, tyB, isNone, Tgs.len, Exs.len, List.map_cons, List.map_nil, List.length_cons, List.length_nil, List.cons_append, List.nil_append, List.take_length, if_true, Bool.not_false, Bool.not_true, List.set_cons_zero, List.set_cons_succ, Nat.reduceAdd, Nat.reduceSub, List.reduceReplicate, Bool.false_eq_true, if_false, reduceIte, and_self, Bool.true_eq_false, decide_true, decide_false]
  have g := gcd_bd h1 h2
  refine s16 (by omega) (by omega) (by omega) (by omega) ?_
  simp (maxSteps := 2000000) (disch := first | omega | assumption | (simp only [List.length_map, List.length_append, List.length_cons, List.length_nil, List.length_take, List.length_drop, List.length_reverse, List.length_replicate]; omega)) only [↓w_nil, ↓w_cons, ↓g_comp, ↓g_comp2, ↓s_for, ↓s_while, ↓g_non, ↓g_bl, ↓g_int, ↓g_str, ↓g_v, ↓g_g, ↓g_get0, ↓g_gets, ↓g_neg, ↓g_bin, ↓g_cmp, ↓g_cmp2, ↓g_and, ↓g_or, ↓g_not, ↓g_ite, ↓g_call, ↓g_callK, ↓g_bi, ↓g_listC, ↓g_rgT, ↓g_rgL, ↓g_isi, ↓g_isiT, ↓g_tup, ↓g_lst, ↓g_ix, ↓g_sl, ↓g_rev, ↓g_app, ↓g_upper, ↓t_and, ↓t_or, ↓t_not, ↓t_ite, ↓t_bl, ↓t_cmp, ↓t_cmp2, ↓t_call, ↓t_callK, ↓t_bi, ↓t_isi, ↓t_isiT, ↓t_ix, ↓l_nil, ↓l_cons, ↓lt_nil, ↓lt_cons, ↓looks_nil, ↓looks_cons, ↓moves_nil, ↓moves_cons, ↓i_seq, ↓i_rng1, ↓i_rng2, ↓i_enum, ↓i_zip, ↓it_list, ↓it_tuple, ↓it_s, ↓gg_n, ↓gg_t, ↓gg_ix, ↓gs_nil, ↓gs_cons, ↓g_tupS, ↓g_lstS, ↓g_lstCS, ↓g_mkL, ↓g_mkC, ↓g_ixT, ↓g_ixL, ↓g_negK, ↓g_asCell, ↓p_nil, ↓p_one, ↓s_pass, ↓s_brk, ↓s_cont, ↓s_never, ↓s_expr, ↓s_ret, ↓s_retN, ↓s_asg, ↓s_par, ↓s_par3, ↓g_rgV, ↓g_rgVK, ↓g_revL, ↓g_revT, ↓s_aug, ↓s_iff, ↓b_add, ↓b_sub, ↓b_mulr, ↓b_mull, ↓b_fdiv, ↓b_mod, ↓b_addLS, ↓b_addTS, ↓q_eqI, ↓q_neI, ↓q_eqB, ↓q_neB, ↓q_lt, ↓q_le, ↓q_gt, ↓q_ge, ↓q_isN, ↓q_isB, ↓q_isnB, ↓isB_b, ↓q_isnN, ↓q_inB, ↓q_notinB, ↓f_lenT, ↓f_lenL, ↓f_int, ↓f_abs, ↓f_max2, ↓f_min2, ↓f_tupleL, ↓f_tupleT, ↓f_listL, ↓f_listT, ↓f_divmod, ↓f_all, ↓f_any, ↓f_sum, ↓a_0, ↓a_1, ↓a_2, ↓t_v, ↓go_cons, ↓go_nil, ↓go_bind, ↓go_pure, ↓go_lookM, ↓go_lookTM, ↓go_truB, ↓go_noneM, ↓go_moveM, ↓go_ite, ↓go_fin, startE, tyB, isNone, Tgs.len, Exs.len, List.map_cons, List.map_nil, List.length_cons, List.length_nil, List.cons_append, List.nil_append, List.take_length, if_true, Bool.not_false, Bool.not_true, List.set_cons_zero, List.set_cons_succ, Nat.reduceAdd, Nat.reduceSub, List.reduceReplicate, Bool.false_eq_true, if_false, reduceIte, and_self, Bool.true_eq_false, decide_true, decide_false]
  exact hq
theorem s18 (hn : 3 ≤ n) {p q : Pl} (hp : Pok p) (hq' : Pok q) (hq : Q (.d (.int (per (p ++ q)))) st) : Go (callN pr n 18 [.d (.tuple [plD p, plD q])]) st Q := by
  obtain ⟨m, rfl⟩ : ∃ m, n = m + 1 := ⟨n - 1, by omega⟩
  rw [go_call (fi := f18) rfl rfl]
  have inner : ∀ (l : Pl) (P : Int) (x3 x4 : Option Val) (z : D) (Q2 : RL.Flow → Sto → Prop), PerOk P → (∀ p ∈ l, 1 ≤ p.1 ∧ p.1 ≤ 10) → (∀ x3 x4, Q2 (.nx [some (.d z), some (.d (.int (l.foldl perS P))), some (.d (.tuple (l.map pD))), x3, x4]) st) →
      Go (forL (evG (callN pr m) pr.glb (.t (.cons (.n 3) (.cons (.n 4) .nil)))) (exSs (callN pr m) pr.glb (.cons (.asg (.n 1) (.call 17 (.cons (.v 1) (.cons (.v 3) .nil)))) .nil)) (l.map pD) [some (.d z), some (.d (.int P)), some (.d (.tuple (l.map pD))), x3, x4]) st Q2 := by
    intro l P x3 x4 z Q2 hP hl hQ
    refine go_forL (fun xs ρ s => ∃ (l' : Pl) (P' : Int) (x3 x4 : Option Val), xs = l'.map pD ∧ PerOk P' ∧ l'.foldl perS P' = l.foldl perS P ∧ (∀ p ∈ l', 1 ≤ p.1 ∧ p.1 ≤ 10) ∧ ρ = [some (.d z), some (.d (.int P')), some (.d (.tuple (l.map pD))), x3, x4] ∧ s = st) ?_ ?_ _ _ _ ⟨l, P, x3, x4, rfl, hP, rfl, hl, rfl, rfl⟩
    · rintro x0 r ρ s ⟨l', P', x3, x4, hx, hP', he, hl', rfl, rfl⟩
      cases l' with
      | nil => cases hx
      | cons p l' =>
        rw [List.map_cons] at hx
        injection hx with e1 e2
        subst e1 e2
        obtain ⟨b1, b2⟩ := hl' p List.mem_cons_self
        simp (maxSteps := 2000000) (disch := first | omega | assumption | (simp only [List.length_map, List.length_append, List.length_cons, List.length_nil, List.length_take, List.length_drop, List.length_reverse, List.length_replicate]; omega)) only [pD, ↓w_nil, ↓w_cons, ↓g_comp, ↓g_comp2, ↓s_for, ↓s_while, ↓g_non, ↓g_bl, ↓g_int, ↓g_str, ↓g_v, ↓g_g, ↓g_get0, ↓g_gets, ↓g_neg, ↓g_bin, ↓g_cmp, ↓g_cmp2, ↓g_and, ↓g_or, ↓g_not, ↓g_ite, ↓g_call, ↓g_callK, ↓g_bi, ↓g_listC, ↓g_rgT, ↓g_rgL, ↓g_isi, ↓g_isiT, ↓g_tup, ↓g_lst, ↓g_ix, ↓g_sl, ↓g_rev, ↓g_app, ↓g_upper, ↓t_and, ↓t_or, ↓t_not, ↓t_ite, ↓t_bl, ↓t_cmp, ↓t_cmp2, ↓t_call, ↓t_callK, ↓t_bi, ↓t_isi, ↓t_isiT, ↓t_ix, ↓l_nil, ↓l_cons, ↓lt_nil, ↓lt_cons, ↓looks_nil, ↓looks_cons, ↓moves_nil, ↓moves_cons, ↓i_seq, ↓i_rng1, ↓i_rng2, ↓i_enum, ↓i_zip, ↓it_list, ↓it_tuple, ↓it_s, ↓gg_n, ↓gg_t, ↓gg_ix, ↓gs_nil, ↓gs_cons, ↓g_tupS, ↓g_lstS, ↓g_lstCS, ↓g_mkL, ↓g_mkC, ↓g_ixT, ↓g_ixL, ↓g_negK, ↓g_asCell, ↓p_nil, ↓p_one, ↓s_pass, ↓s_brk, ↓s_cont, ↓s_never, ↓s_expr, ↓s_ret, ↓s_retN, ↓s_asg, ↓s_par, ↓s_par3, ↓g_rgV, ↓g_rgVK, ↓g_revL, ↓g_revT, ↓s_aug, ↓s_iff, ↓b_add, ↓b_sub, ↓b_mulr, ↓b_mull, ↓b_fdiv, ↓b_mod, ↓b_addLS, ↓b_addTS, ↓q_eqI, ↓q_neI, ↓q_eqB, ↓q_neB, ↓q_lt, ↓q_le, ↓q_gt, ↓q_ge, ↓q_isN, ↓q_isB, ↓q_isnB, ↓isB_b, ↓q_isnN, ↓q_inB, ↓q_notinB, ↓f_lenT, ↓f_lenL, ↓f_int, ↓f_abs, ↓f_max2, ↓f_min2, ↓f_tupleL, ↓f_tupleT, ↓f_listL, ↓f_listT, ↓f_divmod, ↓f_all, ↓f_any, ↓f_sum, ↓a_0, ↓a_1, ↓a_2, ↓t_v, ↓go_cons, ↓go_nil, ↓go_bind, ↓go_pure, ↓go_lookM, ↓go_lookTM, ↓go_truB, ↓go_noneM, ↓go_moveM, ↓go_ite, ↓go_fin, startE, tyB, isNone, Tgs.len, Exs.len, List.map_cons, List.map_nil, List.length_cons, List.length_nil, List.cons_append, List.nil_append, List.take_length, if_true, Bool.not_false, Bool.not_true, List.set_cons_zero, List.set_cons_succ, Nat.reduceAdd, Nat.reduceSub, List.reduceReplicate, Bool.false_eq_true, if_false, reduceIte, and_self, Bool.true_eq_false, decide_true, decide_false]
        refine s17 (by omega) hP'.pos b1 b2 ?_
        try simp (maxSteps := 2000000) (disch := first | omega | assumption | (simp only [List.length_map, List.length_append, List.length_cons, List.length_nil, List.length_take, List.length_drop, List.length_reverse, List.length_replicate]; omega)) only [↓w_nil, ↓w_cons, ↓g_comp, ↓g_comp2, ↓s_for, ↓s_while, ↓g_non, ↓g_bl, ↓g_int, ↓g_str, ↓g_v, ↓g_g, ↓g_get0, ↓g_gets, ↓g_neg, ↓g_bin, ↓g_cmp, ↓g_cmp2, ↓g_and, ↓g_or, ↓g_not, ↓g_ite, ↓g_call, ↓g_callK, ↓g_bi, ↓g_listC, ↓g_rgT, ↓g_rgL, ↓g_isi, ↓g_isiT, ↓g_tup, ↓g_lst, ↓g_ix, ↓g_sl, ↓g_rev, ↓g_app, ↓g_upper, ↓t_and, ↓t_or, ↓t_not, ↓t_ite, ↓t_bl, ↓t_cmp, ↓t_cmp2, ↓t_call, ↓t_callK, ↓t_bi, ↓t_isi, ↓t_isiT, ↓t_ix, ↓l_nil, ↓l_cons, ↓lt_nil, ↓lt_cons, ↓looks_nil, ↓looks_cons, ↓moves_nil, ↓moves_cons, ↓i_seq, ↓i_rng1, ↓i_rng2, ↓i_enum, ↓i_zip, ↓it_list, ↓it_tuple, ↓it_s, ↓gg_n, ↓gg_t, ↓gg_ix, ↓gs_nil, ↓gs_cons, ↓g_tupS, ↓g_lstS, ↓g_lstCS, ↓g_mkL, ↓g_mkC, ↓g_ixT, ↓g_ixL, ↓g_negK, ↓g_asCell, ↓p_nil, ↓p_one, ↓s_pass, ↓s_brk, ↓s_cont, ↓s_never, ↓s_expr, ↓s_ret, ↓s_retN, ↓s_asg, ↓s_par, ↓s_par3, ↓g_rgV, ↓g_rgVK, ↓g_revL, ↓g_revT, ↓s_aug, ↓s_iff, ↓b_add, ↓b_sub, ↓b_mulr, ↓b_mull, ↓b_fdiv, ↓b_mod, ↓b_addLS, ↓b_addTS, ↓q_eqI, ↓q_neI, ↓q_eqB, ↓q_neB, ↓q_lt, ↓q_le, ↓q_gt, ↓q_ge, ↓q_isN, ↓q_isB, ↓q_isnB, ↓isB_b, ↓q_isnN, ↓q_inB, ↓q_notinB, ↓f_lenT, ↓f_lenL, ↓f_int, ↓f_abs, ↓f_max2, ↓f_min2, ↓f_tupleL, ↓f_tupleT, ↓f_listL, ↓f_listT, ↓f_divmod, ↓f_all, ↓f_any, ↓f_sum, ↓a_0, ↓a_1, ↓a_2, ↓t_v, ↓go_cons, ↓go_nil, ↓go_bind, ↓go_pure, ↓go_lookM, ↓go_lookTM, ↓go_truB, ↓go_noneM, ↓go_moveM, ↓go_ite, ↓go_fin, startE, tyB, isNone, Tgs.len, Exs.len, List.map_cons, List.map_nil, List.length_cons, List.length_nil, List.cons_append, List.nil_append, List.take_length, if_true, Bool.not_false, Bool.not_true, List.set_cons_zero, List.set_cons_succ, Nat.reduceAdd, Nat.reduceSub, List.reduceReplicate, Bool.false_eq_true, if_false, reduceIte, and_self, Bool.true_eq_false, decide_true, decide_false]
        exact ⟨l', perS P' p, _, _, rfl, (perS_ok hP' b1 b2).1, he, fun q hq => hl' q (List.mem_cons_of_mem _ hq), rfl, by first | rfl | trivial⟩
    · rintro ρ s ⟨l', P', x3, x4, hx, hP', he, hl', rfl, rfl⟩
      cases l' with
      | cons p l' => cases hx
      | nil =>
        have he : P' = l.foldl perS P := he
        rw [he]; exact hQ _ _
  have k1 : PerOk 1 := ⟨by decide, by decide⟩
  obtain ⟨k2, _⟩ := per_go p 1 k1 hp.steps
  simp (maxSteps := 2000000) (disch := first | omega | assumption | (simp only [List.length_map, List.length_append, List.length_cons, List.length_nil, List.length_take, List.length_drop, List.length_reverse, List.length_replicate]; omega)) only [f18, plD, ↓w_nil, ↓w_cons, ↓g_comp, ↓g_comp2, ↓s_for, ↓s_while, ↓g_non, ↓g_bl, ↓g_int, ↓g_str, ↓g_v, ↓g_g, ↓g_get0, ↓g_gets, ↓g_neg, ↓g_bin, ↓g_cmp, ↓g_cmp2, ↓g_and, ↓g_or, ↓g_not, ↓g_ite, ↓g_call, ↓g_callK, ↓g_bi, ↓g_listC, ↓g_rgT, ↓g_rgL, ↓g_isi, ↓g_isiT, ↓g_tup, ↓g_lst, ↓g_ix, ↓g_sl, ↓g_rev, ↓g_app, ↓g_upper, ↓t_and, ↓t_or, ↓t_not, ↓t_ite, ↓t_bl, ↓t_cmp, ↓t_cmp2, ↓t_call, ↓t_callK, ↓t_bi, ↓t_isi, ↓t_isiT, ↓t_ix, ↓l_nil, ↓l_cons, ↓lt_nil, ↓lt_cons, ↓looks_nil, ↓looks_cons, ↓moves_nil, ↓moves_cons, ↓i_seq, ↓i_rng1, ↓i_rng2, ↓i_enum, ↓i_zip, ↓it_list, ↓it_tuple, ↓it_s, ↓gg_n, ↓gg_t, ↓gg_ix, ↓gs_nil, ↓gs_cons, ↓g_tupS, ↓g_lstS, ↓g_lstCS, ↓g_mkL, ↓g_mkC, ↓g_ixT, ↓g_ixL, ↓g_negK, ↓g_asCell, ↓p_nil, ↓p_one, ↓s_pass, ↓s_brk, ↓s_cont, ↓s_never, ↓s_expr, ↓s_ret, ↓s_retN, ↓s_asg, ↓s_par, ↓s_par3, ↓g_rgV, ↓g_rgVK, ↓g_revL, ↓g_revT, ↓s_aug, ↓s_iff, ↓b_add, ↓b_sub, ↓b_mulr, ↓b_mull, ↓b_fdiv, ↓b_mod, ↓b_addLS, ↓b_addTS, ↓q_eqI, ↓q_neI, ↓q_eqB, ↓q_neB, ↓q_lt, ↓q_le, ↓q_gt, ↓q_ge, ↓q_isN, ↓q_isB, ↓q_isnB, ↓isB_b, ↓q_isnN, ↓q_inB, ↓q_notinB, ↓f_lenT, ↓f_lenL, ↓f_int, ↓f_abs, ↓f_max2, ↓f_min2, ↓f_tupleL, ↓f_tupleT, ↓f_listL, ↓f_listT, ↓f_divmod, ↓f_all, ↓f_any, ↓f_sum, ↓a_0, ↓a_1, ↓a_2, ↓t_v, ↓go_cons, ↓go_nil, ↓go_bind, ↓go_pure, ↓go_lookM, ↓go_lookTM, ↓go_truB, ↓go_noneM, ↓go_moveM, ↓go_ite, ↓go_fin, startE, tyB, isNone, Tgs.len, Exs.len, List.map_cons, List.map_nil, List.length_cons, List.length_nil, List.cons_append, List.nil_append, List.take_length, if_true, Bool.not_false, Bool.not_true, List.set_cons_zero, List.set_cons_succ, Nat.reduceAdd, Nat.reduceSub, List.reduceReplicate, Bool.false_eq_true, if_false, reduceIte, and_self, Bool.true_eq_false, decide_true, decide_false]
  refine inner p 1 none none _ _ k1 hp.steps fun x3 x4 => ?_
  try simp (maxSteps := 2000000) (disch := first | omega | assumption | (simp only [List.length_map, List.length_append, List.length_cons, List.length_nil, List.length_take, List.length_drop, List.length_reverse, List.length_replicate]; omega)) only [↓w_nil, ↓w_cons, ↓g_comp, ↓g_comp2, ↓s_for, ↓s_while, ↓g_non, ↓g_bl, ↓g_int, ↓g_str, ↓g_v, ↓g_g, ↓g_get0, ↓g_gets, ↓g_neg, ↓g_bin, ↓g_cmp, ↓g_cmp2, ↓g_and, ↓g_or, ↓g_not, ↓g_ite, ↓g_call, ↓g_callK, ↓g_bi, ↓g_listC, ↓g_rgT, ↓g_rgL, ↓g_isi, ↓g_isiT, ↓g_tup, ↓g_lst, ↓g_ix, ↓g_sl, ↓g_rev, ↓g_app, ↓g_upper, ↓t_and, ↓t_or, ↓t_not, ↓t_ite, ↓t_bl, ↓t_cmp, ↓t_cmp2, ↓t_call, ↓t_callK, ↓t_bi, ↓t_isi, ↓t_isiT, ↓t_ix, ↓l_nil, ↓l_cons, ↓lt_nil, ↓lt_cons, ↓looks_nil, ↓looks_cons, ↓moves_nil, ↓moves_cons, ↓i_seq, ↓i_rng1, ↓i_rng2, ↓i_enum, ↓i_zip, ↓it_list, ↓it_tuple, ↓it_s, ↓gg_n, ↓gg_t, ↓gg_ix, ↓gs_nil, ↓gs_cons, ↓g_tupS, ↓g_lstS, ↓g_lstCS, ↓g_mkL, ↓g_mkC, ↓g_ixT, ↓g_ixL, ↓g_negK, ↓g_asCell, ↓p_nil, ↓p_one, ↓s_pass, ↓s_brk, ↓s_cont, ↓s_never, ↓s_expr, ↓s_ret, ↓s_retN, ↓s_asg, ↓s_par, ↓s_par3, ↓g_rgV, ↓g_rgVK, ↓g_revL, ↓g_revT, ↓s_aug, ↓s_iff, ↓b_add, ↓b_sub, ↓b_mulr, ↓b_mull, ↓b_fdiv, ↓b_mod, ↓b_addLS, ↓b_addTS, ↓q_eqI, ↓q_neI, ↓q_eqB, ↓q_neB, ↓q_lt, ↓q_le, ↓q_gt, ↓q_ge, ↓q_isN, ↓q_isB, ↓q_isnB, ↓isB_b, ↓q_isnN, ↓q_inB, ↓q_notinB, ↓f_lenT, ↓f_lenL, ↓f_int, ↓f_abs, ↓f_max2, ↓f_min2, ↓f_tupleL, ↓f_tupleT, ↓f_listL, ↓f_listT, ↓f_divmod, ↓f_all, ↓f_any, ↓f_sum, ↓a_0, ↓a_1, ↓a_2, ↓t_v, ↓go_cons, ↓go_nil, ↓go_bind, ↓go_pure, ↓go_lookM, ↓go_lookTM, ↓go_truB, ↓go_noneM, ↓go_moveM, ↓go_ite, ↓go_fin, startE, tyB, isNone, Tgs.len, Exs.len, List.map_cons, List.map_nil, List.length_cons, List.length_nil, List.cons_append, List.nil_append, List.take_length, if_true, Bool.not_false, Bool.not_true, List.set_cons_zero, List.set_cons_succ, Nat.reduceAdd, Nat.reduceSub, List.reduceReplicate, Bool.false_eq_true, if_false, reduceIte, and_self, Bool.true_eq_false, decide_true, decide_false]
  refine inner q _ x3 x4 _ _ k2 hq'.steps fun x3 x4 => ?_
  simp (maxSteps := 2000000) (disch := first | omega | assumption | (simp only [List.length_map, List.length_append, List.length_cons, List.length_nil, List.length_take, List.length_drop, List.length_reverse, List.length_replicate]; omega)) only [↓w_nil, ↓w_cons, ↓g_comp, ↓g_comp2, ↓s_for, ↓s_while, ↓g_non, ↓g_bl, ↓g_int, ↓g_str, ↓g_v, ↓g_g, ↓g_get0, ↓g_gets, ↓g_neg, ↓g_bin, ↓g_cmp, ↓g_cmp2, ↓g_and, ↓g_or, ↓g_not, ↓g_ite, ↓g_call, ↓g_callK, ↓g_bi, ↓g_listC, ↓g_rgT, ↓g_rgL, ↓g_isi, ↓g_isiT, ↓g_tup, ↓g_lst, ↓g_ix, ↓g_sl, ↓g_rev, ↓g_app, ↓g_upper, ↓t_and, ↓t_or, ↓t_not, ↓t_ite, ↓t_bl, ↓t_cmp, ↓t_cmp2, ↓t_call, ↓t_callK, ↓t_bi, ↓t_isi, ↓t_isiT, ↓t_ix, ↓l_nil, ↓l_cons, ↓lt_nil, ↓lt_cons, ↓looks_nil, ↓looks_cons, ↓moves_nil, ↓moves_cons, ↓i_seq, ↓i_rng1, ↓i_rng2, ↓i_enum, ↓i_zip, ↓it_list, ↓it_tuple, ↓it_s, ↓gg_n, ↓gg_t, ↓gg_ix, ↓gs_nil, ↓gs_cons, ↓g_tupS, ↓g_lstS, ↓g_lstCS, ↓g_mkL, ↓g_mkC, ↓g_ixT, ↓g_ixL, ↓g_negK, ↓g_asCell, ↓p_nil, ↓p_one, ↓s_pass, ↓s_brk, ↓s_cont, ↓s_never, ↓s_expr, ↓s_ret, ↓s_retN, ↓s_asg, ↓s_par, ↓s_par3, ↓g_rgV, ↓g_rgVK, ↓g_revL, ↓g_revT, ↓s_aug, ↓s_iff, ↓b_add, ↓b_sub, ↓b_mulr, ↓b_mull, ↓b_fdiv, ↓b_mod, ↓b_addLS, ↓b_addTS, ↓q_eqI, ↓q_neI, ↓q_eqB, ↓q_neB, ↓q_lt, ↓q_le, ↓q_gt, ↓q_ge, ↓q_isN, ↓q_isB, ↓q_isnB, ↓isB_b, ↓q_isnN, ↓q_inB, ↓q_notinB, ↓f_lenT, ↓f_lenL, ↓f_int, ↓f_abs, ↓f_max2, ↓f_min2, ↓f_tupleL, ↓f_tupleT, ↓f_listL, ↓f_listT, ↓f_divmod, ↓f_all, ↓f_any, ↓f_sum, ↓a_0, ↓a_1, ↓a_2, ↓t_v, ↓go_cons, ↓go_nil, ↓go_bind, ↓go_pure, ↓go_lookM, ↓go_lookTM, ↓go_truB, ↓go_noneM, ↓go_moveM, ↓go_ite, ↓go_fin, startE, tyB, isNone, Tgs.len, Exs.len, List.map_cons, List.map_nil, List.length_cons, List.length_nil, List.cons_append, List.nil_append, List.take_length, if_true, Bool.not_false, Bool.not_true, List.set_cons_zero, List.set_cons_succ, Nat.reduceAdd, Nat.reduceSub, List.reduceReplicate, Bool.false_eq_true, if_false, reduceIte, and_self, Bool.true_eq_false, decide_true, decide_false]
  rw [per_app] at hq
  exact hq
end
end RL

set_option Elab.async false
set_option linter.all false
set_option maxRecDepth 100000
set_option maxHeartbeats 4000000
namespace RL
open PySem PySem.Spec PyProof.Rows L2
theorem win_len {P : Int} (h : PerOk P) : (win P).length ≤ 25200 := by
  unfold win
  have e : ∀ l : List Int, (l.flatMap fun l => (days 1 11).map fun d => ((l + 1 - d, l + 1) : Int × Int)).length = l.length * 10 := by
    intro l
    induction l with
    | nil => rfl
    | cons a l ih =>
      rw [List.flatMap_cons, List.length_append, ih, List.length_map, days_len, List.length_cons]
      show 10 + _ = _
      omega
  rw [e, days_len]
  have := h.le
  have := h.pos
  omega
theorem win_map (P : Int) : (win P).map pD = (days 10 (10 + P)).flatMap fun l => (days 1 11).map fun d => pD (l + 1 - d, l + 1) := by
  unfold win
  rw [List.map_flatMap]
  congr 1
section
variable {n : Nat} {st : Sto} {i j k : Int} {Q : Val → Sto → Prop}
theorem s19 (hn : 1 ≤ n) : Go (callN pr n 19 [.d (.int i), .d (.int j)]) st Q ↔ Q (.d (pD (i + 1 - j, i + 1))) st := by
  obtain ⟨m, rfl⟩ : ∃ m, n = m + 1 := ⟨n - 1, by omega⟩
  rw [go_call (fi := f19) rfl rfl]
  simp (maxSteps := 2000000) (disch := first | omega | assumption | (simp only [List.length_map, List.length_append, List.length_cons, List.length_nil, List.length_take, List.length_drop, List.length_reverse, List.length_replicate]; omega)) only [f19, g_tupK (xs := [_, _]) (big 2 (by decide)), ↓w_nil, ↓w_cons, ↓g_comp, ↓g_comp2, ↓s_for, ↓s_while, ↓g_non, ↓g_bl, ↓g_int, ↓g_str, ↓g_v, ↓g_g, ↓g_get0, ↓g_gets, ↓g_neg, ↓g_bin, ↓g_cmp, ↓g_cmp2, ↓g_and, ↓g_or, ↓g_not, ↓g_ite, ↓g_call, ↓g_callK, ↓g_bi, ↓g_listC, ↓g_rgT, ↓g_rgL, ↓g_isi, ↓g_isiT, ↓g_tup, ↓g_lst, ↓g_ix, ↓g_sl, ↓g_rev, ↓g_app, ↓g_upper, ↓t_and, ↓t_or, ↓t_not, ↓t_ite, ↓t_bl, ↓t_cmp, ↓t_cmp2, ↓t_call, ↓t_callK, ↓t_bi, ↓t_isi, ↓t_isiT, ↓t_ix, ↓l_nil, ↓l_cons, ↓lt_nil, ↓lt_cons, ↓looks_nil, ↓looks_cons, ↓moves_nil, ↓moves_cons, ↓i_seq, ↓i_rng1, ↓i_rng2, ↓i_enum, ↓i_zip, ↓it_list, ↓it_tuple, ↓it_s, ↓gg_n, ↓gg_t, ↓gg_ix, ↓gs_nil, ↓gs_cons, ↓g_tupS, ↓g_lstS, ↓g_lstCS, ↓g_mkL, ↓g_mkC, ↓g_ixT, ↓g_ixL, ↓g_negK, ↓g_asCell, ↓p_nil, ↓p_one, ↓s_pass, ↓s_brk, ↓s_cont, ↓s_never, ↓s_expr, ↓s_ret, ↓s_retN, ↓s_asg, ↓s_par, ↓s_par3, ↓g_rgV, ↓g_rgVK, ↓g_revL, ↓g_revT, ↓s_aug, ↓s_iff, ↓b_add, ↓b_sub, ↓b_mulr, ↓b_mull, ↓b_fdiv, ↓b_mod, ↓b_addLS, ↓b_addTS, ↓q_eqI, ↓q_neI, ↓q_eqB, ↓q_neB, ↓q_lt, ↓q_le, ↓q_gt, ↓q_ge, ↓q_isN, ↓q_isB, ↓q_isnB, ↓isB_b, ↓q_isnN, ↓q_inB, ↓q_notinB, ↓f_lenT, ↓f_lenL, ↓f_int, ↓f_abs, ↓f_max2, ↓f_min2, ↓f_tupleL, ↓f_tupleT, ↓f_listL, ↓f_listT, ↓f_divmod, ↓f_all, ↓f_any, ↓f_sum, ↓a_0, ↓a_1, ↓a_2, ↓t_v, ↓go_cons, ↓go_nil, ↓go_bind, ↓go_pure, ↓go_lookM, ↓go_lookTM, ↓go_truB, ↓go_noneM, ↓go_moveM, ↓go_ite, ↓go_fin, startE, tyB, isNone, Tgs.len, Exs.len, List.map_cons, List.map_nil, List.length_cons, List.length_nil, List.cons_append, List.nil_append, List.take_length, if_true, Bool.not_false, Bool.not_true, List.set_cons_zero, List.set_cons_succ, Nat.reduceAdd, Nat.reduceSub, List.reduceReplicate, Bool.false_eq_true, if_false, reduceIte, and_self, Bool.true_eq_false, decide_true, decide_false]
  all_goals exact Iff.rfl
theorem s20 (hn : 4 ≤ n) {p q : Pl} (hp : Pok p) (hq' : Pok q) (hq : Q (.d (.list ((win (per (p ++ q))).map pD))) st) : Go (callN pr n 20 [.d (.tuple [plD p, plD q])]) st Q := by
  obtain ⟨m, rfl⟩ : ∃ m, n = m + 1 := ⟨n - 1, by omega⟩
  rw [go_call (fi := f20) rfl rfl]
  obtain ⟨hP, _⟩ := per_ok (steps2 hp hq')
  have h1 := hP.le
  have h2 := hP.pos
  have hr : rgOk 10 (10 + per (p ++ q)) := rgOk_by (by omega) (by omega) (by omega) (by omega) (by omega)
  simp (maxSteps := 2000000) (disch := first | omega | assumption | (simp only [List.length_map, List.length_append, List.length_cons, List.length_nil, List.length_take, List.length_drop, List.length_reverse, List.length_replicate]; omega)) only [f20, k_2, ↓w_nil, ↓w_cons, ↓g_comp, ↓g_comp2, ↓s_for, ↓s_while, ↓g_non, ↓g_bl, ↓g_int, ↓g_str, ↓g_v, ↓g_g, ↓g_get0, ↓g_gets, ↓g_neg, ↓g_bin, ↓g_cmp, ↓g_cmp2, ↓g_and, ↓g_or, ↓g_not, ↓g_ite, ↓g_call, ↓g_callK, ↓g_bi, ↓g_listC, ↓g_rgT, ↓g_rgL, ↓g_isi, ↓g_isiT, ↓g_tup, ↓g_lst, ↓g_ix, ↓g_sl, ↓g_rev, ↓g_app, ↓g_upper, ↓t_and, ↓t_or, ↓t_not, ↓t_ite, ↓t_bl, ↓t_cmp, ↓t_cmp2, ↓t_call, ↓t_callK, ↓t_bi, ↓t_isi, ↓t_isiT, ↓t_ix, ↓l_nil, ↓l_cons, ↓lt_nil, ↓lt_cons, ↓looks_nil, ↓looks_cons, ↓moves_nil, ↓moves_cons, ↓i_seq, ↓i_rng1, ↓i_rng2, ↓i_enum, ↓i_zip, ↓it_list, ↓it_tuple, ↓it_s, ↓gg_n, ↓gg_t, ↓gg_ix, ↓gs_nil, ↓gs_cons, ↓g_tupS, ↓g_lstS, ↓g_lstCS, ↓g_mkL, ↓g_mkC, ↓g_ixT, ↓g_ixL, ↓g_negK, ↓g_asCell, ↓p_nil, ↓p_one, ↓s_pass, ↓s_brk, ↓s_cont, ↓s_never, ↓s_expr, ↓s_ret, ↓s_retN, ↓s_asg, ↓s_par, ↓s_par3, ↓g_rgV, ↓g_rgVK, ↓g_revL, ↓g_revT, ↓s_aug, ↓s_iff, ↓b_add, ↓b_sub, ↓b_mulr, ↓b_mull, ↓b_fdiv, ↓b_mod, ↓b_addLS, ↓b_addTS, ↓q_eqI, ↓q_neI, ↓q_eqB, ↓q_neB, ↓q_lt, ↓q_le, ↓q_gt, ↓q_ge, ↓q_isN, ↓q_isB, ↓q_isnB, ↓isB_b, ↓q_isnN, ↓q_inB, ↓q_notinB, ↓f_lenT, ↓f_lenL, ↓f_int, ↓f_abs, ↓f_max2, ↓f_min2, ↓f_tupleL, ↓f_tupleT, ↓f_listL, ↓f_listT, ↓f_divmod, ↓f_all, ↓f_any, ↓f_sum, ↓a_0, ↓a_1, ↓a_2, ↓t_v, ↓go_cons, ↓go_nil, ↓go_bind, ↓go_pure, ↓go_lookM, ↓go_lookTM, ↓go_truB, ↓go_noneM, ↓go_moveM, ↓go_ite, ↓go_fin, startE, tyB, isNone, Tgs.len, Exs.len, List.map_cons, List.map_nil, List.length_cons, List.length_nil, List.cons_append, List.nil_append, List.take_length, if_true, Bool.not_false, Bool.not_true, List.set_cons_zero, List.set_cons_succ, Nat.reduceAdd, Nat.reduceSub, List.reduceReplicate, Bool.false_eq_true, if_false, reduceIte, and_self, Bool.true_eq_false, decide_true, decide_false]
  refine s18 (by omega) hp hq' ?_
  simp (maxSteps := 2000000) (disch := first | omega | assumption | (simp only [List.length_map, List.length_append, List.length_cons, List.length_nil, List.length_take, List.length_drop, List.length_reverse, List.length_replicate]; omega)) only [k_2, it_gok hr, rg_days, ↓w_nil, ↓w_cons, ↓g_comp, ↓g_comp2, ↓s_for, ↓s_while, ↓g_non, ↓g_bl, ↓g_int, ↓g_str, ↓g_v, ↓g_g, ↓g_get0, ↓g_gets, ↓g_neg, ↓g_bin, ↓g_cmp, ↓g_cmp2, ↓g_and, ↓g_or, ↓g_not, ↓g_ite, ↓g_call, ↓g_callK, ↓g_bi, ↓g_listC, ↓g_rgT, ↓g_rgL, ↓g_isi, ↓g_isiT, ↓g_tup, ↓g_lst, ↓g_ix, ↓g_sl, ↓g_rev, ↓g_app, ↓g_upper, ↓t_and, ↓t_or, ↓t_not, ↓t_ite, ↓t_bl, ↓t_cmp, ↓t_cmp2, ↓t_call, ↓t_callK, ↓t_bi, ↓t_isi, ↓t_isiT, ↓t_ix, ↓l_nil, ↓l_cons, ↓lt_nil, ↓lt_cons, ↓looks_nil, ↓looks_cons, ↓moves_nil, ↓moves_cons, ↓i_seq, ↓i_rng1, ↓i_rng2, ↓i_enum, ↓i_zip, ↓it_list, ↓it_tuple, ↓it_s, ↓gg_n, ↓gg_t, ↓gg_ix, ↓gs_nil, ↓gs_cons, ↓g_tupS, ↓g_lstS, ↓g_lstCS, ↓g_mkL, ↓g_mkC, ↓g_ixT, ↓g_ixL, ↓g_negK, ↓g_asCell, ↓p_nil, ↓p_one, ↓s_pass, ↓s_brk, ↓s_cont, ↓s_never, ↓s_expr, ↓s_ret, ↓s_retN, ↓s_asg, ↓s_par, ↓s_par3, ↓g_rgV, ↓g_rgVK, ↓g_revL, ↓g_revT, ↓s_aug, ↓s_iff, ↓b_add, ↓b_sub, ↓b_mulr, ↓b_mull, ↓b_fdiv, ↓b_mod, ↓b_addLS, ↓b_addTS, ↓q_eqI, ↓q_neI, ↓q_eqB, ↓q_neB, ↓q_lt, ↓q_le, ↓q_gt, ↓q_ge, ↓q_isN, ↓q_isB, ↓q_isnB, ↓isB_b, ↓q_isnN, ↓q_inB, ↓q_notinB, ↓f_lenT, ↓f_lenL, ↓f_int, ↓f_abs, ↓f_max2, ↓f_min2, ↓f_tupleL, ↓f_tupleT, ↓f_listL, ↓f_listT, ↓f_divmod, ↓f_all, ↓f_any, ↓f_sum, ↓a_0, ↓a_1, ↓a_2, ↓t_v, ↓go_cons, ↓go_nil, ↓go_bind, ↓go_pure, ↓go_lookM, ↓go_lookTM, ↓go_truB, ↓go_noneM, ↓go_moveM, ↓go_ite, ↓go_fin, startE, tyB, isNone, Tgs.len, Exs.len, List.map_cons, List.map_nil, List.length_cons, List.length_nil, List.cons_append, List.nil_append, List.take_length, if_true, Bool.not_false, Bool.not_true, List.set_cons_zero, List.set_cons_succ, Nat.reduceAdd, Nat.reduceSub, List.reduceReplicate, Bool.false_eq_true, if_false, reduceIte, and_self, Bool.true_eq_false, decide_true, decide_false]
  have hw := win_len hP
  rw [go_of (compL_map (g := fun l => (days 1 11).map fun d => pD (l + 1 - d, l + 1)) (fun l hl => ?_)), ← win_map]
  · simp (maxSteps := 2000000) (disch := first | omega | assumption | (simp only [List.length_map, List.length_append, List.length_cons, List.length_nil, List.length_take, List.length_drop, List.length_reverse, List.length_replicate]; omega)) only [g_lstK (xs := (win (per (p ++ q))).map pD) (big _ (by rw [List.length_map]; omega)), ↓w_nil, ↓w_cons, ↓g_comp, ↓g_comp2, ↓s_for, ↓s_while, ↓g_non, ↓g_bl, ↓g_int, ↓g_str, ↓g_v, ↓g_g, ↓g_get0, ↓g_gets, ↓g_neg, ↓g_bin, ↓g_cmp, ↓g_cmp2, ↓g_and, ↓g_or, ↓g_not, ↓g_ite, ↓g_call, ↓g_callK, ↓g_bi, ↓g_listC, ↓g_rgT, ↓g_rgL, ↓g_isi, ↓g_isiT, ↓g_tup, ↓g_lst, ↓g_ix, ↓g_sl, ↓g_rev, ↓g_app, ↓g_upper, ↓t_and, ↓t_or, ↓t_not, ↓t_ite, ↓t_bl, ↓t_cmp, ↓t_cmp2, ↓t_call, ↓t_callK, ↓t_bi, ↓t_isi, ↓t_isiT, ↓t_ix, ↓l_nil, ↓l_cons, ↓lt_nil, ↓lt_cons, ↓looks_nil, ↓looks_cons, ↓moves_nil, ↓moves_cons, ↓i_seq, ↓i_rng1, ↓i_rng2, ↓i_enum, ↓i_zip, ↓it_list, ↓it_tuple, ↓it_s, ↓gg_n, ↓gg_t, ↓gg_ix, ↓gs_nil, ↓gs_cons, ↓g_tupS, ↓g_lstS, ↓g_lstCS, ↓g_mkL, ↓g_mkC, ↓g_ixT, ↓g_ixL, ↓g_negK, ↓g_asCell, ↓p_nil, ↓p_one, ↓s_pass, ↓s_brk, ↓s_cont, ↓s_never, ↓s_expr, ↓s_ret, ↓s_retN, ↓s_asg, ↓s_par, ↓s_par3, ↓g_rgV, ↓g_rgVK, ↓g_revL, ↓g_revT, ↓s_aug, ↓s_iff, ↓b_add, ↓b_sub, ↓b_mulr, ↓b_mull, ↓b_fdiv, ↓b_mod, ↓b_addLS, ↓b_addTS, ↓q_eqI, ↓q_neI, ↓q_eqB, ↓q_neB, ↓q_lt, ↓q_le, ↓q_gt, ↓q_ge, ↓q_isN, ↓q_isB, ↓q_isnB, ↓isB_b, ↓q_isnN, ↓q_inB, ↓q_notinB, ↓f_lenT, ↓f_lenL, ↓f_int, ↓f_abs, ↓f_max2, ↓f_min2, ↓f_tupleL, ↓f_tupleT, ↓f_listL, ↓f_listT, ↓f_divmod, ↓f_all, ↓f_any, ↓f_sum, ↓a_0, ↓a_1, ↓a_2, ↓t_v, ↓go_cons, ↓go_nil, ↓go_bind, ↓go_pure, ↓go_lookM, ↓go_lookTM, ↓go_truB, ↓go_noneM, ↓go_moveM, ↓go_ite, ↓go_fin, startE, tyB, isNone, Tgs.len, Exs.len, List.map_cons, List.map_nil, List.length_cons, List.length_nil, List.cons_append, List.nil_append, List.take_length, if_true, Bool.not_false, Bool.not_true, List.set_cons_zero, List.set_cons_succ, Nat.reduceAdd, Nat.reduceSub, List.reduceReplicate, Bool.false_eq_true, if_false, reduceIte, and_self, Bool.true_eq_false, decide_true, decide_false]
    exact hq
  · apply ok_of
    simp (maxSteps := 2000000) (disch := first | omega | assumption | (simp only [List.length_map, List.length_append, List.length_cons, List.length_nil, List.length_take, List.length_drop, List.length_reverse, List.length_replicate]; omega)) only [↓g_comp2F, wipeE, k_2, rng2_ok (i := 1) (j := 10 + 1) (by decide), rg_days, ↓w_nil, ↓w_cons, ↓g_comp, ↓g_comp2, ↓s_for, ↓s_while, ↓g_non, ↓g_bl, ↓g_int, ↓g_str, ↓g_v, ↓g_g, ↓g_get0, ↓g_gets, ↓g_neg, ↓g_bin, ↓g_cmp, ↓g_cmp2, ↓g_and, ↓g_or, ↓g_not, ↓g_ite, ↓g_call, ↓g_callK, ↓g_bi, ↓g_listC, ↓g_rgT, ↓g_rgL, ↓g_isi, ↓g_isiT, ↓g_tup, ↓g_lst, ↓g_ix, ↓g_sl, ↓g_rev, ↓g_app, ↓g_upper, ↓t_and, ↓t_or, ↓t_not, ↓t_ite, ↓t_bl, ↓t_cmp, ↓t_cmp2, ↓t_call, ↓t_callK, ↓t_bi, ↓t_isi, ↓t_isiT, ↓t_ix, ↓l_nil, ↓l_cons, ↓lt_nil, ↓lt_cons, ↓looks_nil, ↓looks_cons, ↓moves_nil, ↓moves_cons, ↓i_seq, ↓i_rng1, ↓i_rng2, ↓i_enum, ↓i_zip, ↓it_list, ↓it_tuple, ↓it_s, ↓gg_n, ↓gg_t, ↓gg_ix, ↓gs_nil, ↓gs_cons, ↓g_tupS, ↓g_lstS, ↓g_lstCS, ↓g_mkL, ↓g_mkC, ↓g_ixT, ↓g_ixL, ↓g_negK, ↓g_asCell, ↓p_nil, ↓p_one, ↓s_pass, ↓s_brk, ↓s_cont, ↓s_never, ↓s_expr, ↓s_ret, ↓s_retN, ↓s_asg, ↓s_par, ↓s_par3, ↓g_rgV, ↓g_rgVK, ↓g_revL, ↓g_revT, ↓s_aug, ↓s_iff, ↓b_add, ↓b_sub, ↓b_mulr, ↓b_mull, ↓b_fdiv, ↓b_mod, ↓b_addLS, ↓b_addTS, ↓q_eqI, ↓q_neI, ↓q_eqB, ↓q_neB, ↓q_lt, ↓q_le, ↓q_gt, ↓q_ge, ↓q_isN, ↓q_isB, ↓q_isnB, ↓isB_b, ↓q_isnN, ↓q_inB, ↓q_notinB, ↓f_lenT, ↓f_lenL, ↓f_int, ↓f_abs, ↓f_max2, ↓f_min2, ↓f_tupleL, ↓f_tupleT, ↓f_listL, ↓f_listT, ↓f_divmod, ↓f_all, ↓f_any, ↓f_sum, ↓a_0, ↓a_1, ↓a_2, ↓t_v, ↓go_cons, ↓go_nil, ↓go_bind, ↓go_pure, ↓go_lookM, ↓go_lookTM, ↓go_truB, ↓go_noneM, ↓go_moveM, ↓go_ite, ↓go_fin, startE, tyB, isNone, Tgs.len, Exs.len, List.map_cons, List.map_nil, List.length_cons, List.length_nil, List.cons_append, List.nil_append, List.take_length, if_true, Bool.not_false, Bool.not_true, List.set_cons_zero, List.set_cons_succ, Nat.reduceAdd, Nat.reduceSub, List.reduceReplicate, Bool.false_eq_true, if_false, reduceIte, and_self, Bool.true_eq_false, decide_true, decide_false]
    rw [go_of (compL_map (g := fun d => [pD (l + 1 - d, l + 1)]) (fun d hd => ?_))]
    · rw [flatMap_one]; exact ⟨rfl, rfl⟩
    · apply ok_of
      simp (maxSteps := 2000000) (disch := first | omega | assumption | (simp only [List.length_map, List.length_append, List.length_cons, List.length_nil, List.length_take, List.length_drop, List.length_reverse, List.length_replicate]; omega)) only [↓g_compF, wipeE, s19, ↓w_nil, ↓w_cons, ↓g_comp, ↓g_comp2, ↓s_for, ↓s_while, ↓g_non, ↓g_bl, ↓g_int, ↓g_str, ↓g_v, ↓g_g, ↓g_get0, ↓g_gets, ↓g_neg, ↓g_bin, ↓g_cmp, ↓g_cmp2, ↓g_and, ↓g_or, ↓g_not, ↓g_ite, ↓g_call, ↓g_callK, ↓g_bi, ↓g_listC, ↓g_rgT, ↓g_rgL, ↓g_isi, ↓g_isiT, ↓g_tup, ↓g_lst, ↓g_ix, ↓g_sl, ↓g_rev, ↓g_app, ↓g_upper, ↓t_and, ↓t_or, ↓t_not, ↓t_ite, ↓t_bl, ↓t_cmp, ↓t_cmp2, ↓t_call, ↓t_callK, ↓t_bi, ↓t_isi, ↓t_isiT, ↓t_ix, ↓l_nil, ↓l_cons, ↓lt_nil, ↓lt_cons, ↓looks_nil, ↓looks_cons, ↓moves_nil, ↓moves_cons, ↓i_seq, ↓i_rng1, ↓i_rng2, ↓i_enum, ↓i_zip, ↓it_list, ↓it_tuple, ↓it_s, ↓gg_n, ↓gg_t, ↓gg_ix, ↓gs_nil, ↓gs_cons, ↓g_tupS, ↓g_lstS, ↓g_lstCS, ↓g_mkL, ↓g_mkC, ↓g_ixT, ↓g_ixL, ↓g_negK, ↓g_asCell, ↓p_nil, ↓p_one, ↓s_pass, ↓s_brk, ↓s_cont, ↓s_never, ↓s_expr, ↓s_ret, ↓s_retN, ↓s_asg, ↓s_par, ↓s_par3, ↓g_rgV, ↓g_rgVK, ↓g_revL, ↓g_revT, ↓s_aug, ↓s_iff, ↓b_add, ↓b_sub, ↓b_mulr, ↓b_mull, ↓b_fdiv, ↓b_mod, ↓b_addLS, ↓b_addTS, ↓q_eqI, ↓q_neI, ↓q_eqB, ↓q_neB, ↓q_lt, ↓q_le, ↓q_gt, ↓q_ge, ↓q_isN, ↓q_isB, ↓q_isnB, ↓isB_b, ↓q_isnN, ↓q_inB, ↓q_notinB, ↓f_lenT, ↓f_lenL, ↓f_int, ↓f_abs, ↓f_max2, ↓f_min2, ↓f_tupleL, ↓f_tupleT, ↓f_listL, ↓f_listT, ↓f_divmod, ↓f_all, ↓f_any, ↓f_sum, ↓a_0, ↓a_1, ↓a_2, ↓t_v, ↓go_cons, ↓go_nil, ↓go_bind, ↓go_pure, ↓go_lookM, ↓go_lookTM, ↓go_truB, ↓go_noneM, ↓go_moveM, ↓go_ite, ↓go_fin, startE, tyB, isNone, Tgs.len, Exs.len, List.map_cons, List.map_nil, List.length_cons, List.length_nil, List.cons_append, List.nil_append, List.take_length, if_true, Bool.not_false, Bool.not_true, List.set_cons_zero, List.set_cons_succ, Nat.reduceAdd, Nat.reduceSub, List.reduceReplicate, Bool.false_eq_true, if_false, reduceIte, and_self, Bool.true_eq_false, decide_true, decide_false]
theorem optD_none {o : Option (Int × Int)} : isNone (optD o) = o.isNone := by cases o <;> rfl
theorem s21 (hn : 5 ≤ n) {p q : Pl} (hp : Pok p) (hq' : Pok q) (hq : Q (.d (optD (lg p q))) st) : Go (callN pr n 21 [.d (plD p), .d (plD q)]) st Q := by
  obtain ⟨m, rfl⟩ : ∃ m, n = m + 1 := ⟨n - 1, by omega⟩
  rw [go_call (fi := f21) rfl rfl]
  simp (maxSteps := 2000000) (disch := first | omega | assumption | (simp only [List.length_map, List.length_append, List.length_cons, List.length_nil, List.length_take, List.length_drop, List.length_reverse, List.length_replicate]; omega)) only [f21, g_tupK (xs := [_, _]) (big 2 (by decide)), ↓w_nil, ↓w_cons, ↓g_comp, ↓g_comp2, ↓s_for, ↓s_while, ↓g_non, ↓g_bl, ↓g_int, ↓g_str, ↓g_v, ↓g_g, ↓g_get0, ↓g_gets, ↓g_neg, ↓g_bin, ↓g_cmp, ↓g_cmp2, ↓g_and, ↓g_or, ↓g_not, ↓g_ite, ↓g_call, ↓g_callK, ↓g_bi, ↓g_listC, ↓g_rgT, ↓g_rgL, ↓g_isi, ↓g_isiT, ↓g_tup, ↓g_lst, ↓g_ix, ↓g_sl, ↓g_rev, ↓g_app, ↓g_upper, ↓t_and, ↓t_or, ↓t_not, ↓t_ite, ↓t_bl, ↓t_cmp, ↓t_cmp2, ↓t_call, ↓t_callK, ↓t_bi, ↓t_isi, ↓t_isiT, ↓t_ix, ↓l_nil, ↓l_cons, ↓lt_nil, ↓lt_cons, ↓looks_nil, ↓looks_cons, ↓moves_nil, ↓moves_cons, ↓i_seq, ↓i_rng1, ↓i_rng2, ↓i_enum, ↓i_zip, ↓it_list, ↓it_tuple, ↓it_s, ↓gg_n, ↓gg_t, ↓gg_ix, ↓gs_nil, ↓gs_cons, ↓g_tupS, ↓g_lstS, ↓g_lstCS, ↓g_mkL, ↓g_mkC, ↓g_ixT, ↓g_ixL, ↓g_negK, ↓g_asCell, ↓p_nil, ↓p_one, ↓s_pass, ↓s_brk, ↓s_cont, ↓s_never, ↓s_expr, ↓s_ret, ↓s_retN, ↓s_asg, ↓s_par, ↓s_par3, ↓g_rgV, ↓g_rgVK, ↓g_revL, ↓g_revT, ↓s_aug, ↓s_iff, ↓b_add, ↓b_sub, ↓b_mulr, ↓b_mull, ↓b_fdiv, ↓b_mod, ↓b_addLS, ↓b_addTS, ↓q_eqI, ↓q_neI, ↓q_eqB, ↓q_neB, ↓q_lt, ↓q_le, ↓q_gt, ↓q_ge, ↓q_isN, ↓q_isB, ↓q_isnB, ↓isB_b, ↓q_isnN, ↓q_inB, ↓q_notinB, ↓f_lenT, ↓f_lenL, ↓f_int, ↓f_abs, ↓f_max2, ↓f_min2, ↓f_tupleL, ↓f_tupleT, ↓f_listL, ↓f_listT, ↓f_divmod, ↓f_all, ↓f_any, ↓f_sum, ↓a_0, ↓a_1, ↓a_2, ↓t_v, ↓go_cons, ↓go_nil, ↓go_bind, ↓go_pure, ↓go_lookM, ↓go_lookTM, ↓go_truB, ↓go_noneM, ↓go_moveM, ↓go_ite, ↓go_fin, startE, tyB, isNone, Tgs.len, Exs.len, List.map_cons, List.map_nil, List.length_cons, List.length_nil, List.cons_append, List.nil_append, List.take_length, if_true, Bool.not_false, Bool.not_true, List.set_cons_zero, List.set_cons_succ, Nat.reduceAdd, Nat.reduceSub, List.reduceReplicate, Bool.false_eq_true, if_false, reduceIte, and_self, Bool.true_eq_false, decide_true, decide_false]
  refine s20 (by omega) hp hq' ?_
  simp (maxSteps := 2000000) (disch := first | omega | assumption | (simp only [List.length_map, List.length_append, List.length_cons, List.length_nil, List.length_take, List.length_drop, List.length_reverse, List.length_replicate]; omega)) only [↓w_nil, ↓w_cons, ↓g_comp, ↓g_comp2, ↓s_for, ↓s_while, ↓g_non, ↓g_bl, ↓g_int, ↓g_str, ↓g_v, ↓g_g, ↓g_get0, ↓g_gets, ↓g_neg, ↓g_bin, ↓g_cmp, ↓g_cmp2, ↓g_and, ↓g_or, ↓g_not, ↓g_ite, ↓g_call, ↓g_callK, ↓g_bi, ↓g_listC, ↓g_rgT, ↓g_rgL, ↓g_isi, ↓g_isiT, ↓g_tup, ↓g_lst, ↓g_ix, ↓g_sl, ↓g_rev, ↓g_app, ↓g_upper, ↓t_and, ↓t_or, ↓t_not, ↓t_ite, ↓t_bl, ↓t_cmp, ↓t_cmp2, ↓t_call, ↓t_callK, ↓t_bi, ↓t_isi, ↓t_isiT, ↓t_ix, ↓l_nil, ↓l_cons, ↓lt_nil, ↓lt_cons, ↓looks_nil, ↓looks_cons, ↓moves_nil, ↓moves_cons, ↓i_seq, ↓i_rng1, ↓i_rng2, ↓i_enum, ↓i_zip, ↓it_list, ↓it_tuple, ↓it_s, ↓gg_n, ↓gg_t, ↓gg_ix, ↓gs_nil, ↓gs_cons, ↓g_tupS, ↓g_lstS, ↓g_lstCS, ↓g_mkL, ↓g_mkC, ↓g_ixT, ↓g_ixL, ↓g_negK, ↓g_asCell, ↓p_nil, ↓p_one, ↓s_pass, ↓s_brk, ↓s_cont, ↓s_never, ↓s_expr, ↓s_ret, ↓s_retN, ↓s_asg, ↓s_par, ↓s_par3, ↓g_rgV, ↓g_rgVK, ↓g_revL, ↓g_revT, ↓s_aug, ↓s_iff, ↓b_add, ↓b_sub, ↓b_mulr, ↓b_mull, ↓b_fdiv, ↓b_mod, ↓b_addLS, ↓b_addTS, ↓q_eqI, ↓q_neI, ↓q_eqB, ↓q_neB, ↓q_lt, ↓q_le, ↓q_gt, ↓q_ge, ↓q_isN, ↓q_isB, ↓q_isnB, ↓isB_b, ↓q_isnN, ↓q_inB, ↓q_notinB, ↓f_lenT, ↓f_lenL, ↓f_int, ↓f_abs, ↓f_max2, ↓f_min2, ↓f_tupleL, ↓f_tupleT, ↓f_listL, ↓f_listT, ↓f_divmod, ↓f_all, ↓f_any, ↓f_sum, ↓a_0, ↓a_1, ↓a_2, ↓t_v, ↓go_cons, ↓go_nil, ↓go_bind, ↓go_pure, ↓go_lookM, ↓go_lookTM, ↓go_truB, ↓go_noneM, ↓go_moveM, ↓go_ite, ↓go_fin, startE, tyB, isNone, Tgs.len, Exs.len, List.map_cons, List.map_nil, List.length_cons, List.length_nil, List.cons_append, List.nil_append, List.take_length, if_true, Bool.not_false, Bool.not_true, List.set_cons_zero, List.set_cons_succ, Nat.reduceAdd, Nat.reduceSub, List.reduceReplicate, Bool.false_eq_true, if_false, reduceIte, and_self, Bool.true_eq_false, decide_true, decide_false]
  refine go_forL (fun xs ρ s => ∃ (l : List (Int × Int)) (x2 : Option Val), xs = l.map pD ∧ l.find? (isLg p q) = lg p q ∧ ρ = [some (.d (plD p)), some (.d (plD q)), x2] ∧ s = st) ?_ ?_ _ _ _ ⟨win (per (p ++ q)), none, rfl, rfl, rfl, rfl⟩
  · rintro x r ρ s ⟨l, x2, hx, hl, rfl, rfl⟩
    cases l with
    | nil => cases hx
    | cons w l =>
      rw [List.map_cons] at hx
      injection hx with e1 e2
      subst e1 e2
      have hl : (if isLg p q w = true then some w else l.find? (isLg p q)) = lg p q := by
        rw [List.find?_cons] at hl
        rw [← hl]
        cases isLg p q w <;> rfl
      simp (maxSteps := 2000000) (disch := first | omega | assumption | (simp only [List.length_map, List.length_append, List.length_cons, List.length_nil, List.length_take, List.length_drop, List.length_reverse, List.length_replicate]; omega)) only [s15 _ hp, s15 _ hq', pD, ↓w_nil, ↓w_cons, ↓g_comp, ↓g_comp2, ↓s_for, ↓s_while, ↓g_non, ↓g_bl, ↓g_int, ↓g_str, ↓g_v, ↓g_g, ↓g_get0, ↓g_gets, ↓g_neg, ↓g_bin, ↓g_cmp, ↓g_cmp2, ↓g_and, ↓g_or, ↓g_not, ↓g_ite, ↓g_call, ↓g_callK, ↓g_bi, ↓g_listC, ↓g_rgT, ↓g_rgL, ↓g_isi, ↓g_isiT, ↓g_tup, ↓g_lst, ↓g_ix, ↓g_sl, ↓g_rev, ↓g_app, ↓g_upper, ↓t_and, ↓t_or, ↓t_not, ↓t_ite, ↓t_bl, ↓t_cmp, ↓t_cmp2, ↓t_call, ↓t_callK, ↓t_bi, ↓t_isi, ↓t_isiT, ↓t_ix, ↓l_nil, ↓l_cons, ↓lt_nil, ↓lt_cons, ↓looks_nil, ↓looks_cons, ↓moves_nil, ↓moves_cons, ↓i_seq, ↓i_rng1, ↓i_rng2, ↓i_enum, ↓i_zip, ↓it_list, ↓it_tuple, ↓it_s, ↓gg_n, ↓gg_t, ↓gg_ix, ↓gs_nil, ↓gs_cons, ↓g_tupS, ↓g_lstS, ↓g_lstCS, ↓g_mkL, ↓g_mkC, ↓g_ixT, ↓g_ixL, ↓g_negK, ↓g_asCell, ↓p_nil, ↓p_one, ↓s_pass, ↓s_brk, ↓s_cont, ↓s_never, ↓s_expr, ↓s_ret, ↓s_retN, ↓s_asg, ↓s_par, ↓s_par3, ↓g_rgV, ↓g_rgVK, ↓g_revL, ↓g_revT, ↓s_aug, ↓s_iff, ↓b_add, ↓b_sub, ↓b_mulr, ↓b_mull, ↓b_fdiv, ↓b_mod, ↓b_addLS, ↓b_addTS, ↓q_eqI, ↓q_neI, ↓q_eqB, ↓q_neB, ↓q_lt, ↓q_le, ↓q_gt, ↓q_ge, ↓q_isN, ↓q_isB, ↓q_isnB, ↓isB_b, ↓q_isnN, ↓q_inB, ↓q_notinB, ↓f_lenT, ↓f_lenL, ↓f_int, ↓f_abs, ↓f_max2, ↓f_min2, ↓f_tupleL, ↓f_tupleT, ↓f_listL, ↓f_listT, ↓f_divmod, ↓f_all, ↓f_any, ↓f_sum, ↓a_0, ↓a_1, ↓a_2, ↓t_v, ↓go_cons, ↓go_nil, ↓go_bind, ↓go_pure, ↓go_lookM, ↓go_lookTM, ↓go_truB, ↓go_noneM, ↓go_moveM, ↓go_ite, ↓go_fin, startE, tyB, isNone, Tgs.len, Exs.len, List.map_cons, List.map_nil, List.length_cons, List.length_nil, List.cons_append, List.nil_append, List.take_length, if_true, Bool.not_false, Bool.not_true, List.set_cons_zero, List.set_cons_succ, Nat.reduceAdd, Nat.reduceSub, List.reduceReplicate, Bool.false_eq_true, if_false, reduceIte, and_self, Bool.true_eq_false, decide_true, decide_false]
      unfold isLg at hl
      by_cases hc : tail' q w.1 w.2 < tail' p w.1 w.2
      · rw [if_pos (decide_eq_true hc)] at hl
        simp (maxSteps := 2000000) (disch := first | omega | assumption | (simp only [List.length_map, List.length_append, List.length_cons, List.length_nil, List.length_take, List.length_drop, List.length_reverse, List.length_replicate]; omega)) only [hc, ↓w_nil, ↓w_cons, ↓g_comp, ↓g_comp2, ↓s_for, ↓s_while, ↓g_non, ↓g_bl, ↓g_int, ↓g_str, ↓g_v, ↓g_g, ↓g_get0, ↓g_gets, ↓g_neg, ↓g_bin, ↓g_cmp, ↓g_cmp2, ↓g_and, ↓g_or, ↓g_not, ↓g_ite, ↓g_call, ↓g_callK, ↓g_bi, ↓g_listC, ↓g_rgT, ↓g_rgL, ↓g_isi, ↓g_isiT, ↓g_tup, ↓g_lst, ↓g_ix, ↓g_sl, ↓g_rev, ↓g_app, ↓g_upper, ↓t_and, ↓t_or, ↓t_not, ↓t_ite, ↓t_bl, ↓t_cmp, ↓t_cmp2, ↓t_call, ↓t_callK, ↓t_bi, ↓t_isi, ↓t_isiT, ↓t_ix, ↓l_nil, ↓l_cons, ↓lt_nil, ↓lt_cons, ↓looks_nil, ↓looks_cons, ↓moves_nil, ↓moves_cons, ↓i_seq, ↓i_rng1, ↓i_rng2, ↓i_enum, ↓i_zip, ↓it_list, ↓it_tuple, ↓it_s, ↓gg_n, ↓gg_t, ↓gg_ix, ↓gs_nil, ↓gs_cons, ↓g_tupS, ↓g_lstS, ↓g_lstCS, ↓g_mkL, ↓g_mkC, ↓g_ixT, ↓g_ixL, ↓g_negK, ↓g_asCell, ↓p_nil, ↓p_one, ↓s_pass, ↓s_brk, ↓s_cont, ↓s_never, ↓s_expr, ↓s_ret, ↓s_retN, ↓s_asg, ↓s_par, ↓s_par3, ↓g_rgV, ↓g_rgVK, ↓g_revL, ↓g_revT, ↓s_aug, ↓s_iff, ↓b_add, ↓b_sub, ↓b_mulr, ↓b_mull, ↓b_fdiv, ↓b_mod, ↓b_addLS, ↓b_addTS, ↓q_eqI, ↓q_neI, ↓q_eqB, ↓q_neB, ↓q_lt, ↓q_le, ↓q_gt, ↓q_ge, ↓q_isN, ↓q_isB, ↓q_isnB, ↓isB_b, ↓q_isnN, ↓q_inB, ↓q_notinB, ↓f_lenT, ↓f_lenL, ↓f_int, ↓f_abs, ↓f_max2, ↓f_min2, ↓f_tupleL, ↓f_tupleT, ↓f_listL, ↓f_listT, ↓f_divmod, ↓f_all, ↓f_any, ↓f_sum, ↓a_0, ↓a_1, ↓a_2, ↓t_v, ↓go_cons, ↓go_nil, ↓go_bind, ↓go_pure, ↓go_lookM, ↓go_lookTM, ↓go_truB, ↓go_noneM, ↓go_moveM, ↓go_ite, ↓go_fin, startE, tyB, isNone, Tgs.len, Exs.len, List.map_cons, List.map_nil, List.length_cons, List.length_nil, List.cons_append, List.nil_append, List.take_length, if_true, Bool.not_false, Bool.not_true, List.set_cons_zero, List.set_cons_succ, Nat.reduceAdd, Nat.reduceSub, List.reduceReplicate, Bool.false_eq_true, if_false, reduceIte, and_self, Bool.true_eq_false, decide_true, decide_false]
        rw [← hl] at hq
        exact hq
      · rw [if_neg (by rw [decide_eq_false hc]; exact Bool.false_ne_true)] at hl
        simp (maxSteps := 2000000) (disch := first | omega | assumption | (simp only [List.length_map, List.length_append, List.length_cons, List.length_nil, List.length_take, List.length_drop, List.length_reverse, List.length_replicate]; omega)) only [hc, ↓w_nil, ↓w_cons, ↓g_comp, ↓g_comp2, ↓s_for, ↓s_while, ↓g_non, ↓g_bl, ↓g_int, ↓g_str, ↓g_v, ↓g_g, ↓g_get0, ↓g_gets, ↓g_neg, ↓g_bin, ↓g_cmp, ↓g_cmp2, ↓g_and, ↓g_or, ↓g_not, ↓g_ite, ↓g_call, ↓g_callK, ↓g_bi, ↓g_listC, ↓g_rgT, ↓g_rgL, ↓g_isi, ↓g_isiT, ↓g_tup, ↓g_lst, ↓g_ix, ↓g_sl, ↓g_rev, ↓g_app, ↓g_upper, ↓t_and, ↓t_or, ↓t_not, ↓t_ite, ↓t_bl, ↓t_cmp, ↓t_cmp2, ↓t_call, ↓t_callK, ↓t_bi, ↓t_isi, ↓t_isiT, ↓t_ix, ↓l_nil, ↓l_cons, ↓lt_nil, ↓lt_cons, ↓looks_nil, ↓looks_cons, ↓moves_nil, ↓moves_cons, ↓i_seq, ↓i_rng1, ↓i_rng2, ↓i_enum, ↓i_zip, ↓it_list, ↓it_tuple, ↓it_s, ↓gg_n, ↓gg_t, ↓gg_ix, ↓gs_nil, ↓gs_cons, ↓g_tupS, ↓g_lstS, ↓g_lstCS, ↓g_mkL, ↓g_mkC, ↓g_ixT, ↓g_ixL, ↓g_negK, ↓g_asCell, ↓p_nil, ↓p_one, ↓s_pass, ↓s_brk, ↓s_cont, ↓s_never, ↓s_expr, ↓s_ret, ↓s_retN, ↓s_asg, ↓s_par, ↓s_par3, ↓g_rgV, ↓g_rgVK, ↓g_revL, ↓g_revT, ↓s_aug, ↓s_iff, ↓b_add, ↓b_sub, ↓b_mulr, ↓b_mull, ↓b_fdiv, ↓b_mod, ↓b_addLS, ↓b_addTS, ↓q_eqI, ↓q_neI, ↓q_eqB, ↓q_neB, ↓q_lt, ↓q_le, ↓q_gt, ↓q_ge, ↓q_isN, ↓q_isB, ↓q_isnB, ↓isB_b, ↓q_isnN, ↓q_inB, ↓q_notinB, ↓f_lenT, ↓f_lenL, ↓f_int, ↓f_abs, ↓f_max2, ↓f_min2, ↓f_tupleL, ↓f_tupleT, ↓f_listL, ↓f_listT, ↓f_divmod, ↓f_all, ↓f_any, ↓f_sum, ↓a_0, ↓a_1, ↓a_2, ↓t_v, ↓go_cons, ↓go_nil, ↓go_bind, ↓go_pure, ↓go_lookM, ↓go_lookTM, ↓go_truB, ↓go_noneM, ↓go_moveM, ↓go_ite, ↓go_fin, startE, tyB, isNone, Tgs.len, Exs.len, List.map_cons, List.map_nil, List.length_cons, List.length_nil, List.cons_append, List.nil_append, List.take_length, if_true, Bool.not_false, Bool.not_true, List.set_cons_zero, List.set_cons_succ, Nat.reduceAdd, Nat.reduceSub, List.reduceReplicate, Bool.false_eq_true, if_false, reduceIte, and_self, Bool.true_eq_false, decide_true, decide_false]
        exact ⟨l, _, rfl, hl, rfl, by first | rfl | trivial⟩
  · rintro ρ s ⟨l, x2, hx, hl, rfl, rfl⟩
    cases l with
    | cons w l => cases hx
    | nil =>
      have hl : none = lg p q := hl
      simp (maxSteps := 2000000) (disch := first | omega | assumption | (simp only [List.length_map, List.length_append, List.length_cons, List.length_nil, List.length_take, List.length_drop, List.length_reverse, List.length_replicate]; omega)) only [↓w_nil, ↓w_cons, ↓g_comp, ↓g_comp2, ↓s_for, ↓s_while, ↓g_non, ↓g_bl, ↓g_int, ↓g_str, ↓g_v, ↓g_g, ↓g_get0, ↓g_gets, ↓g_neg, ↓g_bin, ↓g_cmp, ↓g_cmp2, ↓g_and, ↓g_or, ↓g_not, ↓g_ite, ↓g_call, ↓g_callK, ↓g_bi, ↓g_listC, ↓g_rgT, ↓g_rgL, ↓g_isi, ↓g_isiT, ↓g_tup, ↓g_lst, ↓g_ix, ↓g_sl, ↓g_rev, ↓g_app, ↓g_upper, ↓t_and, ↓t_or, ↓t_not, ↓t_ite, ↓t_bl, ↓t_cmp, ↓t_cmp2, ↓t_call, ↓t_callK, ↓t_bi, ↓t_isi, ↓t_isiT, ↓t_ix, ↓l_nil, ↓l_cons, ↓lt_nil, ↓lt_cons, ↓looks_nil, ↓looks_cons, ↓moves_nil, ↓moves_cons, ↓i_seq, ↓i_rng1, ↓i_rng2, ↓i_enum, ↓i_zip, ↓it_list, ↓it_tuple, ↓it_s, ↓gg_n, ↓gg_t, ↓gg_ix, ↓gs_nil, ↓gs_cons, ↓g_tupS, ↓g_lstS, ↓g_lstCS, ↓g_mkL, ↓g_mkC, ↓g_ixT, ↓g_ixL, ↓g_negK, ↓g_asCell, ↓p_nil, ↓p_one, ↓s_pass, ↓s_brk, ↓s_cont, ↓s_never, ↓s_expr, ↓s_ret, ↓s_retN, ↓s_asg, ↓s_par, ↓s_par3, ↓g_rgV, ↓g_rgVK, ↓g_revL, ↓g_revT, ↓s_aug, ↓s_iff, ↓b_add, ↓b_sub, ↓b_mulr, ↓b_mull, ↓b_fdiv, ↓b_mod, ↓b_addLS, ↓b_addTS, ↓q_eqI, ↓q_neI, ↓q_eqB, ↓q_neB, ↓q_lt, ↓q_le, ↓q_gt, ↓q_ge, ↓q_isN, ↓q_isB, ↓q_isnB, ↓isB_b, ↓q_isnN, ↓q_inB, ↓q_notinB, ↓f_lenT, ↓f_lenL, ↓f_int, ↓f_abs, ↓f_max2, ↓f_min2, ↓f_tupleL, ↓f_tupleT, ↓f_listL, ↓f_listT, ↓f_divmod, ↓f_all, ↓f_any, ↓f_sum, ↓a_0, ↓a_1, ↓a_2, ↓t_v, ↓go_cons, ↓go_nil, ↓go_bind, ↓go_pure, ↓go_lookM, ↓go_lookTM, ↓go_truB, ↓go_noneM, ↓go_moveM, ↓go_ite, ↓go_fin, startE, tyB, isNone, Tgs.len, Exs.len, List.map_cons, List.map_nil, List.length_cons, List.length_nil, List.cons_append, List.nil_append, List.take_length, if_true, Bool.not_false, Bool.not_true, List.set_cons_zero, List.set_cons_succ, Nat.reduceAdd, Nat.reduceSub, List.reduceReplicate, Bool.false_eq_true, if_false, reduceIte, and_self, Bool.true_eq_false, decide_true, decide_false]
      rw [← hl] at hq
      exact hq
theorem s22 (hn : 6 ≤ n) {p q : Pl} (hp : Pok p) (hq' : Pok q) (hq : Q (.d (.bool (lg p q).isNone)) st) : Go (callN pr n 22 [.d (plD p), .d (plD q)]) st Q := by
  obtain ⟨m, rfl⟩ : ∃ m, n = m + 1 := ⟨n - 1, by omega⟩
  rw [go_call (fi := f22) rfl rfl]
  simp (maxSteps := 2000000) (disch := first | omega | assumption | (simp only [List.length_map, List.length_append, List.length_cons, List.length_nil, List.length_take, List.length_drop, List.length_reverse, List.length_replicate]; omega)) only [f22, ↓w_nil, ↓w_cons, ↓g_comp, ↓g_comp2, ↓s_for, ↓s_while, ↓g_non, ↓g_bl, ↓g_int, ↓g_str, ↓g_v, ↓g_g, ↓g_get0, ↓g_gets, ↓g_neg, ↓g_bin, ↓g_cmp, ↓g_cmp2, ↓g_and, ↓g_or, ↓g_not, ↓g_ite, ↓g_call, ↓g_callK, ↓g_bi, ↓g_listC, ↓g_rgT, ↓g_rgL, ↓g_isi, ↓g_isiT, ↓g_tup, ↓g_lst, ↓g_ix, ↓g_sl, ↓g_rev, ↓g_app, ↓g_upper, ↓t_and, ↓t_or, ↓t_not, ↓t_ite, ↓t_bl, ↓t_cmp, ↓t_cmp2, ↓t_call, ↓t_callK, ↓t_bi, ↓t_isi, ↓t_isiT, ↓t_ix, ↓l_nil, ↓l_cons, ↓lt_nil, ↓lt_cons, ↓looks_nil, ↓looks_cons, ↓moves_nil, ↓moves_cons, ↓i_seq, ↓i_rng1, ↓i_rng2, ↓i_enum, ↓i_zip, ↓it_list, ↓it_tuple, ↓it_s, ↓gg_n, ↓gg_t, ↓gg_ix, ↓gs_nil, ↓gs_cons, ↓g_tupS, ↓g_lstS, ↓g_lstCS, ↓g_mkL, ↓g_mkC, ↓g_ixT, ↓g_ixL, ↓g_negK, ↓g_asCell, ↓p_nil, ↓p_one, ↓s_pass, ↓s_brk, ↓s_cont, ↓s_never, ↓s_expr, ↓s_ret, ↓s_retN, ↓s_asg, ↓s_par, ↓s_par3, ↓g_rgV, ↓g_rgVK, ↓g_revL, ↓g_revT, ↓s_aug, ↓s_iff, ↓b_add, ↓b_sub, ↓b_mulr, ↓b_mull, ↓b_fdiv, ↓b_mod, ↓b_addLS, ↓b_addTS, ↓q_eqI, ↓q_neI, ↓q_eqB, ↓q_neB, ↓q_lt, ↓q_le, ↓q_gt, ↓q_ge, ↓q_isN, ↓q_isB, ↓q_isnB, ↓isB_b, ↓q_isnN, ↓q_inB, ↓q_notinB, ↓f_lenT, ↓f_lenL, ↓f_int, ↓f_abs, ↓f_max2, ↓f_min2, ↓f_tupleL, ↓f_tupleT, ↓f_listL, ↓f_listT, ↓f_divmod, ↓f_all, ↓f_any, ↓f_sum, ↓a_0, ↓a_1, ↓a_2, ↓t_v, ↓go_cons, ↓go_nil, ↓go_bind, ↓go_pure, ↓go_lookM, ↓go_lookTM, ↓go_truB, ↓go_noneM, ↓go_moveM, ↓go_ite, ↓go_fin, startE, tyB, isNone, Tgs.len, Exs.len, List.map_cons, List.map_nil, List.length_cons, List.length_nil, List.cons_append, List.nil_append, List.take_length, if_true, Bool.not_false, Bool.not_true, List.set_cons_zero, List.set_cons_succ, Nat.reduceAdd, Nat.reduceSub, List.reduceReplicate, Bool.false_eq_true, if_false, reduceIte, and_self, Bool.true_eq_false, decide_true, decide_false]
  refine s21 (by omega) hp hq' ?_
  simp (maxSteps := 2000000) (disch := first | omega | assumption | (simp only [List.length_map, List.length_append, List.length_cons, List.length_nil, List.length_take, List.length_drop, List.length_reverse, List.length_replicate]; omega)) only [↓w_nil, ↓w_cons, ↓g_comp, ↓g_comp2, ↓s_for, ↓s_while, ↓g_non, ↓g_bl, ↓g_int, ↓g_str, ↓g_v, ↓g_g, ↓g_get0, ↓g_gets, ↓g_neg, ↓g_bin, ↓g_cmp, ↓g_cmp2, ↓g_and, ↓g_or, ↓g_not, ↓g_ite, ↓g_call, ↓g_callK, ↓g_bi, ↓g_listC, ↓g_rgT, ↓g_rgL, ↓g_isi, ↓g_isiT, ↓g_tup, ↓g_lst, ↓g_ix, ↓g_sl, ↓g_rev, ↓g_app, ↓g_upper, ↓t_and, ↓t_or, ↓t_not, ↓t_ite, ↓t_bl, ↓t_cmp, ↓t_cmp2, ↓t_call, ↓t_callK, ↓t_bi, ↓t_isi, ↓t_isiT, ↓t_ix, ↓l_nil, ↓l_cons, ↓lt_nil, ↓lt_cons, ↓looks_nil, ↓looks_cons, ↓moves_nil, ↓moves_cons, ↓i_seq, ↓i_rng1, ↓i_rng2, ↓i_enum, ↓i_zip, ↓it_list, ↓it_tuple, ↓it_s, ↓gg_n, ↓gg_t, ↓gg_ix, ↓gs_nil, ↓gs_cons, ↓g_tupS, ↓g_lstS, ↓g_lstCS, ↓g_mkL, ↓g_mkC, ↓g_ixT, ↓g_ixL, ↓g_negK, ↓g_asCell, ↓p_nil, ↓p_one, ↓s_pass, ↓s_brk, ↓s_cont, ↓s_never, ↓s_expr, ↓s_ret, ↓s_retN, ↓s_asg, ↓s_par, ↓s_par3, ↓g_rgV, ↓g_rgVK, ↓g_revL, ↓g_revT, ↓s_aug, ↓s_iff, ↓b_add, ↓b_sub, ↓b_mulr, ↓b_mull, ↓b_fdiv, ↓b_mod, ↓b_addLS, ↓b_addTS, ↓q_eqI, ↓q_neI, ↓q_eqB, ↓q_neB, ↓q_lt, ↓q_le, ↓q_gt, ↓q_ge, ↓q_isN, ↓q_isB, ↓q_isnB, ↓isB_b, ↓q_isnN, ↓q_inB, ↓q_notinB, ↓f_lenT, ↓f_lenL, ↓f_int, ↓f_abs, ↓f_max2, ↓f_min2, ↓f_tupleL, ↓f_tupleT, ↓f_listL, ↓f_listT, ↓f_divmod, ↓f_all, ↓f_any, ↓f_sum, ↓a_0, ↓a_1, ↓a_2, ↓t_v, ↓go_cons, ↓go_nil, ↓go_bind, ↓go_pure, ↓go_lookM, ↓go_lookTM, ↓go_truB, ↓go_noneM, ↓go_moveM, ↓go_ite, ↓go_fin, startE, tyB, isNone, Tgs.len, Exs.len, List.map_cons, List.map_nil, List.length_cons, List.length_nil, List.cons_append, List.nil_append, List.take_length, if_true, Bool.not_false, Bool.not_true, List.set_cons_zero, List.set_cons_succ, Nat.reduceAdd, Nat.reduceSub, List.reduceReplicate, Bool.false_eq_true, if_false, reduceIte, and_self, Bool.true_eq_false, decide_true, decide_false]
  have e := optD_none (o := lg p q)
  unfold isNone at e
  rw [e]
  exact hq
theorem s23 (hn : 7 ≤ n) {p q : Pl} (hp : Pok p) (hq' : Pok q) (hq : Q (.d (.bool ((lg p q).isNone && (lg q p).isNone))) st) : Go (callN pr n 23 [.d (plD p), .d (plD q)]) st Q := by
  obtain ⟨m, rfl⟩ : ∃ m, n = m + 1 := ⟨n - 1, by omega⟩
  rw [go_call (fi := f23) rfl rfl]
  simp (maxSteps := 2000000) (disch := first | omega | assumption | (simp only [List.length_map, List.length_append, List.length_cons, List.length_nil, List.length_take, List.length_drop, List.length_reverse, List.length_replicate]; omega)) only [f23, ↓w_nil, ↓w_cons, ↓g_comp, ↓g_comp2, ↓s_for, ↓s_while, ↓g_non, ↓g_bl, ↓g_int, ↓g_str, ↓g_v, ↓g_g, ↓g_get0, ↓g_gets, ↓g_neg, ↓g_bin, ↓g_cmp, ↓g_cmp2, ↓g_and, ↓g_or, ↓g_not, ↓g_ite, ↓g_call, ↓g_callK, ↓g_bi, ↓g_listC, ↓g_rgT, ↓g_rgL, ↓g_isi, ↓g_isiT, ↓g_tup, ↓g_lst, ↓g_ix, ↓g_sl, ↓g_rev, ↓g_app, ↓g_upper, ↓t_and, ↓t_or, ↓t_not, ↓t_ite, ↓t_bl, ↓t_cmp, ↓t_cmp2, ↓t_call, ↓t_callK, ↓t_bi, ↓t_isi, ↓t_isiT, ↓t_ix, ↓l_nil, ↓l_cons, ↓lt_nil, ↓lt_cons, ↓looks_nil, ↓looks_cons, ↓moves_nil, ↓moves_cons, ↓i_seq, ↓i_rng1, ↓i_rng2, ↓i_enum, ↓i_zip, ↓it_list, ↓it_tuple, ↓it_s, ↓gg_n, ↓gg_t, ↓gg_ix, ↓gs_nil, ↓gs_cons, ↓g_tupS, ↓g_lstS, ↓g_lstCS, ↓g_mkL, ↓g_mkC, ↓g_ixT, ↓g_ixL, ↓g_negK, ↓g_asCell, ↓p_nil, ↓p_one, ↓s_pass, ↓s_brk, ↓s_cont, ↓s_never, ↓s_expr, ↓s_ret, ↓s_retN, ↓s_asg, ↓s_par, ↓s_par3, ↓g_rgV, ↓g_rgVK, ↓g_revL, ↓g_revT, ↓s_aug, ↓s_iff, ↓b_add, ↓b_sub, ↓b_mulr, ↓b_mull, ↓b_fdiv, ↓b_mod, ↓b_addLS, ↓b_addTS, ↓q_eqI, ↓q_neI, ↓q_eqB, ↓q_neB, ↓q_lt, ↓q_le, ↓q_gt, ↓q_ge, ↓q_isN, ↓q_isB, ↓q_isnB, ↓isB_b, ↓q_isnN, ↓q_inB, ↓q_notinB, ↓f_lenT, ↓f_lenL, ↓f_int, ↓f_abs, ↓f_max2, ↓f_min2, ↓f_tupleL, ↓f_tupleT, ↓f_listL, ↓f_listT, ↓f_divmod, ↓f_all, ↓f_any, ↓f_sum, ↓a_0, ↓a_1, ↓a_2, ↓t_v, ↓go_cons, ↓go_nil, ↓go_bind, ↓go_pure, ↓go_lookM, ↓go_lookTM, ↓go_truB, ↓go_noneM, ↓go_moveM, ↓go_ite, ↓go_fin, startE, tyB, isNone, Tgs.len, Exs.len, List.map_cons, List.map_nil, List.length_cons, List.length_nil, List.cons_append, List.nil_append, List.take_length, if_true, Bool.not_false, Bool.not_true, List.set_cons_zero, List.set_cons_succ, Nat.reduceAdd, Nat.reduceSub, List.reduceReplicate, Bool.false_eq_true, if_false, reduceIte, and_self, Bool.true_eq_false, decide_true, decide_false]
  refine s22 (by omega) hp hq' ?_
  simp (maxSteps := 2000000) (disch := first | omega | assumption | (simp only [List.length_map, List.length_append, List.length_cons, List.length_nil, List.length_take, List.length_drop, List.length_reverse, List.length_replicate]; omega)) only [↓w_nil, ↓w_cons, ↓g_comp, ↓g_comp2, ↓s_for, ↓s_while, ↓g_non, ↓g_bl, ↓g_int, ↓g_str, ↓g_v, ↓g_g, ↓g_get0, ↓g_gets, ↓g_neg, ↓g_bin, ↓g_cmp, ↓g_cmp2, ↓g_and, ↓g_or, ↓g_not, ↓g_ite, ↓g_call, ↓g_callK, ↓g_bi, ↓g_listC, ↓g_rgT, ↓g_rgL, ↓g_isi, ↓g_isiT, ↓g_tup, ↓g_lst, ↓g_ix, ↓g_sl, ↓g_rev, ↓g_app, ↓g_upper, ↓t_and, ↓t_or, ↓t_not, ↓t_ite, ↓t_bl, ↓t_cmp, ↓t_cmp2, ↓t_call, ↓t_callK, ↓t_bi, ↓t_isi, ↓t_isiT, ↓t_ix, ↓l_nil, ↓l_cons, ↓lt_nil, ↓lt_cons, ↓looks_nil, ↓looks_cons, ↓moves_nil, ↓moves_cons, ↓i_seq, ↓i_rng1, ↓i_rng2, ↓i_enum, ↓i_zip, ↓it_list, ↓it_tuple, ↓it_s, ↓gg_n, ↓gg_t, ↓gg_ix, ↓gs_nil, ↓gs_cons, ↓g_tupS, ↓g_lstS, ↓g_lstCS, ↓g_mkL, ↓g_mkC, ↓g_ixT, ↓g_ixL, ↓g_negK, ↓g_asCell, ↓p_nil, ↓p_one, ↓s_pass, ↓s_brk, ↓s_cont, ↓s_never, ↓s_expr, ↓s_ret, ↓s_retN, ↓s_asg, ↓s_par, ↓s_par3, ↓g_rgV, ↓g_rgVK, ↓g_revL, ↓g_revT, ↓s_aug, ↓s_iff, ↓b_add, ↓b_sub, ↓b_mulr, ↓b_mull, ↓b_fdiv, ↓b_mod, ↓b_addLS, ↓b_addTS, ↓q_eqI, ↓q_neI, ↓q_eqB, ↓q_neB, ↓q_lt, ↓q_le, ↓q_gt, ↓q_ge, ↓q_isN, ↓q_isB, ↓q_isnB, ↓isB_b, ↓q_isnN, ↓q_inB, ↓q_notinB, ↓f_lenT, ↓f_lenL, ↓f_int, ↓f_abs, ↓f_max2, ↓f_min2, ↓f_tupleL, ↓f_tupleT, ↓f_listL, ↓f_listT, ↓f_divmod, ↓f_all, ↓f_any, ↓f_sum, ↓a_0, ↓a_1, ↓a_2, ↓t_v, ↓go_cons, ↓go_nil, ↓go_bind, ↓go_pure, ↓go_lookM, ↓go_lookTM, ↓go_truB, ↓go_noneM, ↓go_moveM, ↓go_ite, ↓go_fin, startE, tyB, isNone, Tgs.len, Exs.len, List.map_cons, List.map_nil, List.length_cons, List.length_nil, List.cons_append, List.nil_append, List.take_length, if_true, Bool.not_false, Bool.not_true, List.set_cons_zero, List.set_cons_succ, Nat.reduceAdd, Nat.reduceSub, List.reduceReplicate, Bool.false_eq_true, if_false, reduceIte, and_self, Bool.true_eq_false, decide_true, decide_false]
  cases h : (lg p q).isNone
  · simp (maxSteps := 2000000) (disch := first | omega | assumption | (simp only [List.length_map, List.length_append, List.length_cons, List.length_nil, List.length_take, List.length_drop, List.length_reverse, List.length_replicate]; omega)) only [↓w_nil, ↓w_cons, ↓g_comp, ↓g_comp2, ↓s_for, ↓s_while, ↓g_non, ↓g_bl, ↓g_int, ↓g_str, ↓g_v, ↓g_g, ↓g_get0, ↓g_gets, ↓g_neg, ↓g_bin, ↓g_cmp, ↓g_cmp2, ↓g_and, ↓g_or, ↓g_not, ↓g_ite, ↓g_call, ↓g_callK, ↓g_bi, ↓g_listC, ↓g_rgT, ↓g_rgL, ↓g_isi, ↓g_isiT, ↓g_tup, ↓g_lst, ↓g_ix, ↓g_sl, ↓g_rev, ↓g_app, ↓g_upper, ↓t_and, ↓t_or, ↓t_not, ↓t_ite, ↓t_bl, ↓t_cmp, ↓t_cmp2, ↓t_call, ↓t_callK, ↓t_bi, ↓t_isi, ↓t_isiT, ↓t_ix, ↓l_nil, ↓l_cons, ↓lt_nil, ↓lt_cons, ↓looks_nil, ↓looks_cons, ↓moves_nil, ↓moves_cons, ↓i_seq, ↓i_rng1, ↓i_rng2, ↓i_enum, ↓i_zip, ↓it_list, ↓it_tuple, ↓it_s, ↓gg_n, ↓gg_t, ↓gg_ix, ↓gs_nil, ↓gs_cons, ↓g_tupS, ↓g_lstS, ↓g_lstCS, ↓g_mkL, ↓g_mkC, ↓g_ixT, ↓g_ixL, ↓g_negK, ↓g_asCell, ↓p_nil, ↓p_one, ↓s_pass, ↓s_brk, ↓s_cont, ↓s_never, ↓s_expr, ↓s_ret, ↓s_retN, ↓s_asg, ↓s_par, ↓s_par3, ↓g_rgV, ↓g_rgVK, ↓g_revL, ↓g_revT, ↓s_aug, ↓s_iff, ↓b_add, ↓b_sub, ↓b_mulr, ↓b_mull, ↓b_fdiv, ↓b_mod, ↓b_addLS, ↓b_addTS, ↓q_eqI, ↓q_neI, ↓q_eqB, ↓q_neB, ↓q_lt, ↓q_le, ↓q_gt, ↓q_ge, ↓q_isN, ↓q_isB, ↓q_isnB, ↓isB_b, ↓q_isnN, ↓q_inB, ↓q_notinB, ↓f_lenT, ↓f_lenL, ↓f_int, ↓f_abs, ↓f_max2, ↓f_min2, ↓f_tupleL, ↓f_tupleT, ↓f_listL, ↓f_listT, ↓f_divmod, ↓f_all, ↓f_any, ↓f_sum, ↓a_0, ↓a_1, ↓a_2, ↓t_v, ↓go_cons, ↓go_nil, ↓go_bind, ↓go_pure, ↓go_lookM, ↓go_lookTM, ↓go_truB, ↓go_noneM, ↓go_moveM, ↓go_ite, ↓go_fin, startE, tyB, isNone, Tgs.len, Exs.len, List.map_cons, List.map_nil, List.length_cons, List.length_nil, List.cons_append, List.nil_append, List.take_length, if_true, Bool.not_false, Bool.not_true, List.set_cons_zero, List.set_cons_succ, Nat.reduceAdd, Nat.reduceSub, List.reduceReplicate, Bool.false_eq_true, if_false, reduceIte, and_self, Bool.true_eq_false, decide_true, decide_false]
    rw [h] at hq
    exact hq
  · simp (maxSteps := 2000000) (disch := first | omega | assumption | (simp only [List.length_map, List.length_append, List.length_cons, List.length_nil, List.length_take, List.length_drop, List.length_reverse, List.length_replicate]; omega)) only [↓w_nil, ↓w_cons, ↓g_comp, ↓g_comp2, ↓s_for, ↓s_while, ↓g_non, ↓g_bl, ↓g_int, ↓g_str, ↓g_v, ↓g_g, ↓g_get0, ↓g_gets, ↓g_neg, ↓g_bin, ↓g_cmp, ↓g_cmp2, ↓g_and, ↓g_or, ↓g_not, ↓g_ite, ↓g_call, ↓g_callK, ↓g_bi, ↓g_listC, ↓g_rgT, ↓g_rgL, ↓g_isi, ↓g_isiT, ↓g_tup, ↓g_lst, ↓g_ix, ↓g_sl, ↓g_rev, ↓g_app, ↓g_upper, ↓t_and, ↓t_or, ↓t_not, ↓t_ite, ↓t_bl, ↓t_cmp, ↓t_cmp2, ↓t_call, ↓t_callK, ↓t_bi, ↓t_isi, ↓t_isiT, ↓t_ix, ↓l_nil, ↓l_cons, ↓lt_nil, ↓lt_cons, ↓looks_nil, ↓looks_cons, ↓moves_nil, ↓moves_cons, ↓i_seq, ↓i_rng1, ↓i_rng2, ↓i_enum, ↓i_zip, ↓it_list, ↓it_tuple, ↓it_s, ↓gg_n, ↓gg_t, ↓gg_ix, ↓gs_nil, ↓gs_cons, ↓g_tupS, ↓g_lstS, ↓g_lstCS, ↓g_mkL, ↓g_mkC, ↓g_ixT, ↓g_ixL, ↓g_negK, ↓g_asCell, ↓p_nil, ↓p_one, ↓s_pass, ↓s_brk, ↓s_cont, ↓s_never, ↓s_expr, ↓s_ret, ↓s_retN, ↓s_asg, ↓s_par, ↓s_par3, ↓g_rgV, ↓g_rgVK, ↓g_revL, ↓g_revT, ↓s_aug, ↓s_iff, ↓b_add, ↓b_sub, ↓b_mulr, ↓b_mull, ↓b_fdiv, ↓b_mod, ↓b_addLS, ↓b_addTS, ↓q_eqI, ↓q_neI, ↓q_eqB, ↓q_neB, ↓q_lt, ↓q_le, ↓q_gt, ↓q_ge, ↓q_isN, ↓q_isB, ↓q_isnB, ↓isB_b, ↓q_isnN, ↓q_inB, ↓q_notinB, ↓f_lenT, ↓f_lenL, ↓f_int, ↓f_abs, ↓f_max2, ↓f_min2, ↓f_tupleL, ↓f_tupleT, ↓f_listL, ↓f_listT, ↓f_divmod, ↓f_all, ↓f_any, ↓f_sum, ↓a_0, ↓a_1, ↓a_2, ↓t_v, ↓go_cons, ↓go_nil, ↓go_bind, ↓go_pure, ↓go_lookM, ↓go_lookTM, ↓go_truB, ↓go_noneM, ↓go_moveM, ↓go_ite, ↓go_fin, startE, tyB, isNone, Tgs.len, Exs.len, List.map_cons, List.map_nil, List.length_cons, List.length_nil, List.cons_append, List.nil_append, List.take_length, if_true, Bool.not_false, Bool.not_true, List.set_cons_zero, List.set_cons_succ, Nat.reduceAdd, Nat.reduceSub, List.reduceReplicate, Bool.false_eq_true, if_false, reduceIte, and_self, Bool.true_eq_false, decide_true, decide_false]
    rw [h] at hq
    refine s22 (by omega) hq' hp ?_
    simp (maxSteps := 2000000) (disch := first | omega | assumption | (simp only [List.length_map, List.length_append, List.length_cons, List.length_nil, List.length_take, List.length_drop, List.length_reverse, List.length_replicate]; omega)) only [↓w_nil, ↓w_cons, ↓g_comp, ↓g_comp2, ↓s_for, ↓s_while, ↓g_non, ↓g_bl, ↓g_int, ↓g_str, ↓g_v, ↓g_g, ↓g_get0, ↓g_gets, ↓g_neg, ↓g_bin, ↓g_cmp, ↓g_cmp2, ↓g_and, ↓g_or, ↓g_not, ↓g_ite, ↓g_call, ↓g_callK, ↓g_bi, ↓g_listC, ↓g_rgT, ↓g_rgL, ↓g_isi, ↓g_isiT, ↓g_tup, ↓g_lst, ↓g_ix, ↓g_sl, ↓g_rev, ↓g_app, ↓g_upper, ↓t_and, ↓t_or, ↓t_not, ↓t_ite, ↓t_bl, ↓t_cmp, ↓t_cmp2, ↓t_call, ↓t_callK, ↓t_bi, ↓t_isi, ↓t_isiT, ↓t_ix, ↓l_nil, ↓l_cons, ↓lt_nil, ↓lt_cons, ↓looks_nil, ↓looks_cons, ↓moves_nil, ↓moves_cons, ↓i_seq, ↓i_rng1, ↓i_rng2, ↓i_enum, ↓i_zip, ↓it_list, ↓it_tuple, ↓it_s, ↓gg_n, ↓gg_t, ↓gg_ix, ↓gs_nil, ↓gs_cons, ↓g_tupS, ↓g_lstS, ↓g_lstCS, ↓g_mkL, ↓g_mkC, ↓g_ixT, ↓g_ixL, ↓g_negK, ↓g_asCell, ↓p_nil, ↓p_one, ↓s_pass, ↓s_brk, ↓s_cont, ↓s_never, ↓s_expr, ↓s_ret, ↓s_retN, ↓s_asg, ↓s_par, ↓s_par3, ↓g_rgV, ↓g_rgVK, ↓g_revL, ↓g_revT, ↓s_aug, ↓s_iff, ↓b_add, ↓b_sub, ↓b_mulr, ↓b_mull, ↓b_fdiv, ↓b_mod, ↓b_addLS, ↓b_addTS, ↓q_eqI, ↓q_neI, ↓q_eqB, ↓q_neB, ↓q_lt, ↓q_le, ↓q_gt, ↓q_ge, ↓q_isN, ↓q_isB, ↓q_isnB, ↓isB_b, ↓q_isnN, ↓q_inB, ↓q_notinB, ↓f_lenT, ↓f_lenL, ↓f_int, ↓f_abs, ↓f_max2, ↓f_min2, ↓f_tupleL, ↓f_tupleT, ↓f_listL, ↓f_listT, ↓f_divmod, ↓f_all, ↓f_any, ↓f_sum, ↓a_0, ↓a_1, ↓a_2, ↓t_v, ↓go_cons, ↓go_nil, ↓go_bind, ↓go_pure, ↓go_lookM, ↓go_lookTM, ↓go_truB, ↓go_noneM, ↓go_moveM, ↓go_ite, ↓go_fin, startE, tyB, isNone, Tgs.len, Exs.len, List.map_cons, List.map_nil, List.length_cons, List.length_nil, List.cons_append, List.nil_append, List.take_length, if_true, Bool.not_false, Bool.not_true, List.set_cons_zero, List.set_cons_succ, Nat.reduceAdd, Nat.reduceSub, List.reduceReplicate, Bool.false_eq_true, if_false, reduceIte, and_self, Bool.true_eq_false, decide_true, decide_false]
    exact hq
theorem s26 (hn : 7 ≤ n) {p q : Pl} (hp : Pok p) (hq' : Pok q) : Go (callN pr n 26 [.d (plD p), .d (plD q)]) st Q ↔ Q (.d .none) st := by
  obtain ⟨m, rfl⟩ : ∃ m, n = m + 1 := ⟨n - 1, by omega⟩
  rw [go_call (fi := f26) rfl rfl]
  simp (maxSteps := 2000000) (disch := first | omega | assumption | (simp only [List.length_map, List.length_append, List.length_cons, List.length_nil, List.length_take, List.length_drop, List.length_reverse, List.length_replicate]; omega)) only [f26, s10 _ hp, s10 _ hq', ↓w_nil, ↓w_cons, ↓g_comp, ↓g_comp2, ↓s_for, ↓s_while, ↓g_non, ↓g_bl, ↓g_int, ↓g_str, ↓g_v, ↓g_g, ↓g_get0, ↓g_gets, ↓g_neg, ↓g_bin, ↓g_cmp, ↓g_cmp2, ↓g_and, ↓g_or, ↓g_not, ↓g_ite, ↓g_call, ↓g_callK, ↓g_bi, ↓g_listC, ↓g_rgT, ↓g_rgL, ↓g_isi, ↓g_isiT, ↓g_tup, ↓g_lst, ↓g_ix, ↓g_sl, ↓g_rev, ↓g_app, ↓g_upper, ↓t_and, ↓t_or, ↓t_not, ↓t_ite, ↓t_bl, ↓t_cmp, ↓t_cmp2, ↓t_call, ↓t_callK, ↓t_bi, ↓t_isi, ↓t_isiT, ↓t_ix, ↓l_nil, ↓l_cons, ↓lt_nil, ↓lt_cons, ↓looks_nil, ↓looks_cons, ↓moves_nil, ↓moves_cons, ↓i_seq, ↓i_rng1, ↓i_rng2, ↓i_enum, ↓i_zip, ↓it_list, ↓it_tuple, ↓it_s, ↓gg_n, ↓gg_t, ↓gg_ix, ↓gs_nil, ↓gs_cons, ↓g_tupS, ↓g_lstS, ↓g_lstCS, ↓g_mkL, ↓g_mkC, ↓g_ixT, ↓g_ixL, ↓g_negK, ↓g_asCell, ↓p_nil, ↓p_one, ↓s_pass, ↓s_brk, ↓s_cont, ↓s_never, ↓s_expr, ↓s_ret, ↓s_retN, ↓s_asg, ↓s_par, ↓s_par3, ↓g_rgV, ↓g_rgVK, ↓g_revL, ↓g_revT, ↓s_aug, ↓s_iff, ↓b_add, ↓b_sub, ↓b_mulr, ↓b_mull, ↓b_fdiv, ↓b_mod, ↓b_addLS, ↓b_addTS, ↓q_eqI, ↓q_neI, ↓q_eqB, ↓q_neB, ↓q_lt, ↓q_le, ↓q_gt, ↓q_ge, ↓q_isN, ↓q_isB, ↓q_isnB, ↓isB_b, ↓q_isnN, ↓q_inB, ↓q_notinB, ↓f_lenT, ↓f_lenL, ↓f_int, ↓f_abs, ↓f_max2, ↓f_min2, ↓f_tupleL, ↓f_tupleT, ↓f_listL, ↓f_listT, ↓f_divmod, ↓f_all, ↓f_any, ↓f_sum, ↓a_0, ↓a_1, ↓a_2, ↓t_v, ↓go_cons, ↓go_nil, ↓go_bind, ↓go_pure, ↓go_lookM, ↓go_lookTM, ↓go_truB, ↓go_noneM, ↓go_moveM, ↓go_ite, ↓go_fin, startE, tyB, isNone, Tgs.len, Exs.len, List.map_cons, List.map_nil, List.length_cons, List.length_nil, List.cons_append, List.nil_append, List.take_length, if_true, Bool.not_false, Bool.not_true, List.set_cons_zero, List.set_cons_succ, Nat.reduceAdd, Nat.reduceSub, List.reduceReplicate, Bool.false_eq_true, if_false, reduceIte, and_self, Bool.true_eq_false, decide_true, decide_false]
theorem s27 (hn : 8 ≤ n) {p q : Pl} (hp : Pok p) (hq' : Pok q) (hq : Q (.d (.bool (lg p q).isNone)) st) : Go (callN pr n 27 [.d (plD p), .d (plD q)]) st Q := by
  obtain ⟨m, rfl⟩ : ∃ m, n = m + 1 := ⟨n - 1, by omega⟩
  rw [go_call (fi := f27) rfl rfl]
  simp (maxSteps := 2000000) (disch := first | omega | assumption | (simp only [List.length_map, List.length_append, List.length_cons, List.length_nil, List.length_take, List.length_drop, List.length_reverse, List.length_replicate]; omega)) only [f27, s26 _ hp hq', ↓w_nil, ↓w_cons, ↓g_comp, ↓g_comp2, ↓s_for, ↓s_while, ↓g_non, ↓g_bl, ↓g_int, ↓g_str, ↓g_v, ↓g_g, ↓g_get0, ↓g_gets, ↓g_neg, ↓g_bin, ↓g_cmp, ↓g_cmp2, ↓g_and, ↓g_or, ↓g_not, ↓g_ite, ↓g_call, ↓g_callK, ↓g_bi, ↓g_listC, ↓g_rgT, ↓g_rgL, ↓g_isi, ↓g_isiT, ↓g_tup, ↓g_lst, ↓g_ix, ↓g_sl, ↓g_rev, ↓g_app, ↓g_upper, ↓t_and, ↓t_or, ↓t_not, ↓t_ite, ↓t_bl, ↓t_cmp, ↓t_cmp2, ↓t_call, ↓t_callK, ↓t_bi, ↓t_isi, ↓t_isiT, ↓t_ix, ↓l_nil, ↓l_cons, ↓lt_nil, ↓lt_cons, ↓looks_nil, ↓looks_cons, ↓moves_nil, ↓moves_cons, ↓i_seq, ↓i_rng1, ↓i_rng2, ↓i_enum, ↓i_zip, ↓it_list, ↓it_tuple, ↓it_s, ↓gg_n, ↓gg_t, ↓gg_ix, ↓gs_nil, ↓gs_cons, ↓g_tupS, ↓g_lstS, ↓g_lstCS, ↓g_mkL, ↓g_mkC, ↓g_ixT, ↓g_ixL, ↓g_negK, ↓g_asCell, ↓p_nil, ↓p_one, ↓s_pass, ↓s_brk, ↓s_cont, ↓s_never, ↓s_expr, ↓s_ret, ↓s_retN, ↓s_asg, ↓s_par, ↓s_par3, ↓g_rgV, ↓g_rgVK, ↓g_revL, ↓g_revT, ↓s_aug, ↓s_iff, ↓b_add, ↓b_sub, ↓b_mulr, ↓b_mull, ↓b_fdiv, ↓b_mod, ↓b_addLS, ↓b_addTS, ↓q_eqI, ↓q_neI, ↓q_eqB, ↓q_neB, ↓q_lt, ↓q_le, ↓q_gt, ↓q_ge, ↓q_isN, ↓q_isB, ↓q_isnB, ↓isB_b, ↓q_isnN, ↓q_inB, ↓q_notinB, ↓f_lenT, ↓f_lenL, ↓f_int, ↓f_abs, ↓f_max2, ↓f_min2, ↓f_tupleL, ↓f_tupleT, ↓f_listL, ↓f_listT, ↓f_divmod, ↓f_all, ↓f_any, ↓f_sum, ↓a_0, ↓a_1, ↓a_2, ↓t_v, ↓go_cons, ↓go_nil, ↓go_bind, ↓go_pure, ↓go_lookM, ↓go_lookTM, ↓go_truB, ↓go_noneM, ↓go_moveM, ↓go_ite, ↓go_fin, startE, tyB, isNone, Tgs.len, Exs.len, List.map_cons, List.map_nil, List.length_cons, List.length_nil, List.cons_append, List.nil_append, List.take_length, if_true, Bool.not_false, Bool.not_true, List.set_cons_zero, List.set_cons_succ, Nat.reduceAdd, Nat.reduceSub, List.reduceReplicate, Bool.false_eq_true, if_false, reduceIte, and_self, Bool.true_eq_false, decide_true, decide_false]
  refine s22 (by omega) hp hq' ?_
  simp (maxSteps := 2000000) (disch := first | omega | assumption | (simp only [List.length_map, List.length_append, List.length_cons, List.length_nil, List.length_take, List.length_drop, List.length_reverse, List.length_replicate]; omega)) only [↓w_nil, ↓w_cons, ↓g_comp, ↓g_comp2, ↓s_for, ↓s_while, ↓g_non, ↓g_bl, ↓g_int, ↓g_str, ↓g_v, ↓g_g, ↓g_get0, ↓g_gets, ↓g_neg, ↓g_bin, ↓g_cmp, ↓g_cmp2, ↓g_and, ↓g_or, ↓g_not, ↓g_ite, ↓g_call, ↓g_callK, ↓g_bi, ↓g_listC, ↓g_rgT, ↓g_rgL, ↓g_isi, ↓g_isiT, ↓g_tup, ↓g_lst, ↓g_ix, ↓g_sl, ↓g_rev, ↓g_app, ↓g_upper, ↓t_and, ↓t_or, ↓t_not, ↓t_ite, ↓t_bl, ↓t_cmp, ↓t_cmp2, ↓t_call, ↓t_callK, ↓t_bi, ↓t_isi, ↓t_isiT, ↓t_ix, ↓l_nil, ↓l_cons, ↓lt_nil, ↓lt_cons, ↓looks_nil, ↓looks_cons, ↓moves_nil, ↓moves_cons, ↓i_seq, ↓i_rng1, ↓i_rng2, ↓i_enum, ↓i_zip, ↓it_list, ↓it_tuple, ↓it_s, ↓gg_n, ↓gg_t, ↓gg_ix, ↓gs_nil, ↓gs_cons, ↓g_tupS, ↓g_lstS, ↓g_lstCS, ↓g_mkL, ↓g_mkC, ↓g_ixT, ↓g_ixL, ↓g_negK, ↓g_asCell, ↓p_nil, ↓p_one, ↓s_pass, ↓s_brk, ↓s_cont, ↓s_never, ↓s_expr, ↓s_ret, ↓s_retN, ↓s_asg, ↓s_par, ↓s_par3, ↓g_rgV, ↓g_rgVK, ↓g_revL, ↓g_revT, ↓s_aug, ↓s_iff, ↓b_add, ↓b_sub, ↓b_mulr, ↓b_mull, ↓b_fdiv, ↓b_mod, ↓b_addLS, ↓b_addTS, ↓q_eqI, ↓q_neI, ↓q_eqB, ↓q_neB, ↓q_lt, ↓q_le, ↓q_gt, ↓q_ge, ↓q_isN, ↓q_isB, ↓q_isnB, ↓isB_b, ↓q_isnN, ↓q_inB, ↓q_notinB, ↓f_lenT, ↓f_lenL, ↓f_int, ↓f_abs, ↓f_max2, ↓f_min2, ↓f_tupleL, ↓f_tupleT, ↓f_listL, ↓f_listT, ↓f_divmod, ↓f_all, ↓f_any, ↓f_sum, ↓a_0, ↓a_1, ↓a_2, ↓t_v, ↓go_cons, ↓go_nil, ↓go_bind, ↓go_pure, ↓go_lookM, ↓go_lookTM, ↓go_truB, ↓go_noneM, ↓go_moveM, ↓go_ite, ↓go_fin, startE, tyB, isNone, Tgs.len, Exs.len, List.map_cons, List.map_nil, List.length_cons, List.length_nil, List.cons_append, List.nil_append, List.take_length, if_true, Bool.not_false, Bool.not_true, List.set_cons_zero, List.set_cons_succ, Nat.reduceAdd, Nat.reduceSub, List.reduceReplicate, Bool.false_eq_true, if_false, reduceIte, and_self, Bool.true_eq_false, decide_true, decide_false]
  exact hq
theorem s28 (hn : 8 ≤ n) {p q : Pl} (hp : Pok p) (hq' : Pok q) (hq : Q (.d (optD (lg p q))) st) : Go (callN pr n 28 [.d (plD p), .d (plD q)]) st Q := by
  obtain ⟨m, rfl⟩ : ∃ m, n = m + 1 := ⟨n - 1, by omega⟩
  rw [go_call (fi := f28) rfl rfl]
  simp (maxSteps := 2000000) (disch := first | omega | assumption | (simp only [List.length_map, List.length_append, List.length_cons, List.length_nil, List.length_take, List.length_drop, List.length_reverse, List.length_replicate]; omega)) only [f28, s26 _ hp hq', ↓w_nil, ↓w_cons, ↓g_comp, ↓g_comp2, ↓s_for, ↓s_while, ↓g_non, ↓g_bl, ↓g_int, ↓g_str, ↓g_v, ↓g_g, ↓g_get0, ↓g_gets, ↓g_neg, ↓g_bin, ↓g_cmp, ↓g_cmp2, ↓g_and, ↓g_or, ↓g_not, ↓g_ite, ↓g_call, ↓g_callK, ↓g_bi, ↓g_listC, ↓g_rgT, ↓g_rgL, ↓g_isi, ↓g_isiT, ↓g_tup, ↓g_lst, ↓g_ix, ↓g_sl, ↓g_rev, ↓g_app, ↓g_upper, ↓t_and, ↓t_or, ↓t_not, ↓t_ite, ↓t_bl, ↓t_cmp, ↓t_cmp2, ↓t_call, ↓t_callK, ↓t_bi, ↓t_isi, ↓t_isiT, ↓t_ix, ↓l_nil, ↓l_cons, ↓lt_nil, ↓lt_cons, ↓looks_nil, ↓looks_cons, ↓moves_nil, ↓moves_cons, ↓i_seq, ↓i_rng1, ↓i_rng2, ↓i_enum, ↓i_zip, ↓it_list, ↓it_tuple, ↓it_s, ↓gg_n, ↓gg_t, ↓gg_ix, ↓gs_nil, ↓gs_cons, ↓g_tupS, ↓g_lstS, ↓g_lstCS, ↓g_mkL, ↓g_mkC, ↓g_ixT, ↓g_ixL, ↓g_negK, ↓g_asCell, ↓p_nil, ↓p_one, ↓s_pass, ↓s_brk, ↓s_cont, ↓s_never, ↓s_expr, ↓s_ret, ↓s_retN, ↓s_asg, ↓s_par, ↓s_par3, ↓g_rgV, ↓g_rgVK, ↓g_revL, ↓g_revT, ↓s_aug, ↓s_iff, ↓b_add, ↓b_sub, ↓b_mulr, ↓b_mull, ↓b_fdiv, ↓b_mod, ↓b_addLS, ↓b_addTS, ↓q_eqI, ↓q_neI, ↓q_eqB, ↓q_neB, ↓q_lt, ↓q_le, ↓q_gt, ↓q_ge, ↓q_isN, ↓q_isB, ↓q_isnB, ↓isB_b, ↓q_isnN, ↓q_inB, ↓q_notinB, ↓f_lenT, ↓f_lenL, ↓f_int, ↓f_abs, ↓f_max2, ↓f_min2, ↓f_tupleL, ↓f_tupleT, ↓f_listL, ↓f_listT, ↓f_divmod, ↓f_all, ↓f_any, ↓f_sum, ↓a_0, ↓a_1, ↓a_2, ↓t_v, ↓go_cons, ↓go_nil, ↓go_bind, ↓go_pure, ↓go_lookM, ↓go_lookTM, ↓go_truB, ↓go_noneM, ↓go_moveM, ↓go_ite, ↓go_fin, startE, tyB, isNone, Tgs.len, Exs.len, List.map_cons, List.map_nil, List.length_cons, List.length_nil, List.cons_append, List.nil_append, List.take_length, if_true, Bool.not_false, Bool.not_true, List.set_cons_zero, List.set_cons_succ, Nat.reduceAdd, Nat.reduceSub, List.reduceReplicate, Bool.false_eq_true, if_false, reduceIte, and_self, Bool.true_eq_false, decide_true, decide_false]
  refine s21 (by omega) hp hq' ?_
  simp (maxSteps := 2000000) (disch := first | omega | assumption | (simp only [List.length_map, List.length_append, List.length_cons, List.length_nil, List.length_take, List.length_drop, List.length_reverse, List.length_replicate]; omega)) only [↓w_nil, ↓w_cons, ↓g_comp, ↓g_comp2, ↓s_for, ↓s_while, ↓g_non, ↓g_bl, ↓g_int, ↓g_str, ↓g_v, ↓g_g, ↓g_get0, ↓g_gets, ↓g_neg, ↓g_bin, ↓g_cmp, ↓g_cmp2, ↓g_and, ↓g_or, ↓g_not, ↓g_ite, ↓g_call, ↓g_callK, ↓g_bi, ↓g_listC, ↓g_rgT, ↓g_rgL, ↓g_isi, ↓g_isiT, ↓g_tup, ↓g_lst, ↓g_ix, ↓g_sl, ↓g_rev, ↓g_app, ↓g_upper, ↓t_and, ↓t_or, ↓t_not, ↓t_ite, ↓t_bl, ↓t_cmp, ↓t_cmp2, ↓t_call, ↓t_callK, ↓t_bi, ↓t_isi, ↓t_isiT, ↓t_ix, ↓l_nil, ↓l_cons, ↓lt_nil, ↓lt_cons, ↓looks_nil, ↓looks_cons, ↓moves_nil, ↓moves_cons, ↓i_seq, ↓i_rng1, ↓i_rng2, ↓i_enum, ↓i_zip, ↓it_list, ↓it_tuple, ↓it_s, ↓gg_n, ↓gg_t, ↓gg_ix, ↓gs_nil, ↓gs_cons, ↓g_tupS, ↓g_lstS, ↓g_lstCS, ↓g_mkL, ↓g_mkC, ↓g_ixT, ↓g_ixL, ↓g_negK, ↓g_asCell, ↓p_nil, ↓p_one, ↓s_pass, ↓s_brk, ↓s_cont, ↓s_never, ↓s_expr, ↓s_ret, ↓s_retN, ↓s_asg, ↓s_par, ↓s_par3, ↓g_rgV, ↓g_rgVK, ↓g_revL, ↓g_revT, ↓s_aug, ↓s_iff, ↓b_add, ↓b_sub, ↓b_mulr, ↓b_mull, ↓b_fdiv, ↓b_mod, ↓b_addLS, ↓b_addTS, ↓q_eqI, ↓q_neI, ↓q_eqB, ↓q_neB, ↓q_lt, ↓q_le, ↓q_gt, ↓q_ge, ↓q_isN, ↓q_isB, ↓q_isnB, ↓isB_b, ↓q_isnN, ↓q_inB, ↓q_notinB, ↓f_lenT, ↓f_lenL, ↓f_int, ↓f_abs, ↓f_max2, ↓f_min2, ↓f_tupleL, ↓f_tupleT, ↓f_listL, ↓f_listT, ↓f_divmod, ↓f_all, ↓f_any, ↓f_sum, ↓a_0, ↓a_1, ↓a_2, ↓t_v, ↓go_cons, ↓go_nil, ↓go_bind, ↓go_pure, ↓go_lookM, ↓go_lookTM, ↓go_truB, ↓go_noneM, ↓go_moveM, ↓go_ite, ↓go_fin, startE, tyB, isNone, Tgs.len, Exs.len, List.map_cons, List.map_nil, List.length_cons, List.length_nil, List.cons_append, List.nil_append, List.take_length, if_true, Bool.not_false, Bool.not_true, List.set_cons_zero, List.set_cons_succ, Nat.reduceAdd, Nat.reduceSub, List.reduceReplicate, Bool.false_eq_true, if_false, reduceIte, and_self, Bool.true_eq_false, decide_true, decide_false]
  exact hq
theorem s29 (hn : 8 ≤ n) {p q : Pl} (hp : Pok p) (hq' : Pok q) (hq : Q (.d (.bool ((lg p q).isNone && (lg q p).isNone))) st) : Go (callN pr n 29 [.d (plD p), .d (plD q)]) st Q := by
  obtain ⟨m, rfl⟩ : ∃ m, n = m + 1 := ⟨n - 1, by omega⟩
  rw [go_call (fi := f29) rfl rfl]
  simp (maxSteps := 2000000) (disch := first | omega | assumption | (simp only [List.length_map, List.length_append, List.length_cons, List.length_nil, List.length_take, List.length_drop, List.length_reverse, List.length_replicate]; omega)) only [f29, s26 _ hp hq', ↓w_nil, ↓w_cons, ↓g_comp, ↓g_comp2, ↓s_for, ↓s_while, ↓g_non, ↓g_bl, ↓g_int, ↓g_str, ↓g_v, ↓g_g, ↓g_get0, ↓g_gets, ↓g_neg, ↓g_bin, ↓g_cmp, ↓g_cmp2, ↓g_and, ↓g_or, ↓g_not, ↓g_ite, ↓g_call, ↓g_callK, ↓g_bi, ↓g_listC, ↓g_rgT, ↓g_rgL, ↓g_isi, ↓g_isiT, ↓g_tup, ↓g_lst, ↓g_ix, ↓g_sl, ↓g_rev, ↓g_app, ↓g_upper, ↓t_and, ↓t_or, ↓t_not, ↓t_ite, ↓t_bl, ↓t_cmp, ↓t_cmp2, ↓t_call, ↓t_callK, ↓t_bi, ↓t_isi, ↓t_isiT, ↓t_ix, ↓l_nil, ↓l_cons, ↓lt_nil, ↓lt_cons, ↓looks_nil, ↓looks_cons, ↓moves_nil, ↓moves_cons, ↓i_seq, ↓i_rng1, ↓i_rng2, ↓i_enum, ↓i_zip, ↓it_list, ↓it_tuple, ↓it_s, ↓gg_n, ↓gg_t, ↓gg_ix, ↓gs_nil, ↓gs_cons, ↓g_tupS, ↓g_lstS, ↓g_lstCS, ↓g_mkL, ↓g_mkC, ↓g_ixT, ↓g_ixL, ↓g_negK, ↓g_asCell, ↓p_nil, ↓p_one, ↓s_pass, ↓s_brk, ↓s_cont, ↓s_never, ↓s_expr, ↓s_ret, ↓s_retN, ↓s_asg, ↓s_par, ↓s_par3, ↓g_rgV, ↓g_rgVK, ↓g_revL, ↓g_revT, ↓s_aug, ↓s_iff, ↓b_add, ↓b_sub, ↓b_mulr, ↓b_mull, ↓b_fdiv, ↓b_mod, ↓b_addLS, ↓b_addTS, ↓q_eqI, ↓q_neI, ↓q_eqB, ↓q_neB, ↓q_lt, ↓q_le, ↓q_gt, ↓q_ge, ↓q_isN, ↓q_isB, ↓q_isnB, ↓isB_b, ↓q_isnN, ↓q_inB, ↓q_notinB, ↓f_lenT, ↓f_lenL, ↓f_int, ↓f_abs, ↓f_max2, ↓f_min2, ↓f_tupleL, ↓f_tupleT, ↓f_listL, ↓f_listT, ↓f_divmod, ↓f_all, ↓f_any, ↓f_sum, ↓a_0, ↓a_1, ↓a_2, ↓t_v, ↓go_cons, ↓go_nil, ↓go_bind, ↓go_pure, ↓go_lookM, ↓go_lookTM, ↓go_truB, ↓go_noneM, ↓go_moveM, ↓go_ite, ↓go_fin, startE, tyB, isNone, Tgs.len, Exs.len, List.map_cons, List.map_nil, List.length_cons, List.length_nil, List.cons_append, List.nil_append, List.take_length, if_true, Bool.not_false, Bool.not_true, List.set_cons_zero, List.set_cons_succ, Nat.reduceAdd, Nat.reduceSub, List.reduceReplicate, Bool.false_eq_true, if_false, reduceIte, and_self, Bool.true_eq_false, decide_true, decide_false]
  refine s23 (by omega) hp hq' ?_
  simp (maxSteps := 2000000) (disch := first | omega | assumption | (simp only [List.length_map, List.length_append, List.length_cons, List.length_nil, List.length_take, List.length_drop, List.length_reverse, List.length_replicate]; omega)) only [↓w_nil, ↓w_cons, ↓g_comp, ↓g_comp2, ↓s_for, ↓s_while, ↓g_non, ↓g_bl, ↓g_int, ↓g_str, ↓g_v, ↓g_g, ↓g_get0, ↓g_gets, ↓g_neg, ↓g_bin, ↓g_cmp, ↓g_cmp2, ↓g_and, ↓g_or, ↓g_not, ↓g_ite, ↓g_call, ↓g_callK, ↓g_bi, ↓g_listC, ↓g_rgT, ↓g_rgL, ↓g_isi, ↓g_isiT, ↓g_tup, ↓g_lst, ↓g_ix, ↓g_sl, ↓g_rev, ↓g_app, ↓g_upper, ↓t_and, ↓t_or, ↓t_not, ↓t_ite, ↓t_bl, ↓t_cmp, ↓t_cmp2, ↓t_call, ↓t_callK, ↓t_bi, ↓t_isi, ↓t_isiT, ↓t_ix, ↓l_nil, ↓l_cons, ↓lt_nil, ↓lt_cons, ↓looks_nil, ↓looks_cons, ↓moves_nil, ↓moves_cons, ↓i_seq, ↓i_rng1, ↓i_rng2, ↓i_enum, ↓i_zip, ↓it_list, ↓it_tuple, ↓it_s, ↓gg_n, ↓gg_t, ↓gg_ix, ↓gs_nil, ↓gs_cons, ↓g_tupS, ↓g_lstS, ↓g_lstCS, ↓g_mkL, ↓g_mkC, ↓g_ixT, ↓g_ixL, ↓g_negK, ↓g_asCell, ↓p_nil, ↓p_one, ↓s_pass, ↓s_brk, ↓s_cont, ↓s_never, ↓s_expr, ↓s_ret, ↓s_retN, ↓s_asg, ↓s_par, ↓s_par3, ↓g_rgV, ↓g_rgVK, ↓g_revL, ↓g_revT, ↓s_aug, ↓s_iff, ↓b_add, ↓b_sub, ↓b_mulr, ↓b_mull, ↓b_fdiv, ↓b_mod, ↓b_addLS, ↓b_addTS, ↓q_eqI, ↓q_neI, ↓q_eqB, ↓q_neB, ↓q_lt, ↓q_le, ↓q_gt, ↓q_ge, ↓q_isN, ↓q_isB, ↓q_isnB, ↓isB_b, ↓q_isnN, ↓q_inB, ↓q_notinB, ↓f_lenT, ↓f_lenL, ↓f_int, ↓f_abs, ↓f_max2, ↓f_min2, ↓f_tupleL, ↓f_tupleT, ↓f_listL, ↓f_listT, ↓f_divmod, ↓f_all, ↓f_any, ↓f_sum, ↓a_0, ↓a_1, ↓a_2, ↓t_v, ↓go_cons, ↓go_nil, ↓go_bind, ↓go_pure, ↓go_lookM, ↓go_lookTM, ↓go_truB, ↓go_noneM, ↓go_moveM, ↓go_ite, ↓go_fin, startE, tyB, isNone, Tgs.len, Exs.len, List.map_cons, List.map_nil, List.length_cons, List.length_nil, List.cons_append, List.nil_append, List.take_length, if_true, Bool.not_false, Bool.not_true, List.set_cons_zero, List.set_cons_succ, Nat.reduceAdd, Nat.reduceSub, List.reduceReplicate, Bool.false_eq_true, if_false, reduceIte, and_self, Bool.true_eq_false, decide_true, decide_false]
  exact hq
end
end RL

set_option Elab.async false
set_option linter.all false
set_option maxRecDepth 100000
set_option maxHeartbeats 4000000
namespace RL
open PySem PySem.Spec PyProof.Rows L2
section
variable {n : Nat} {st : Sto} {i j k : Int} {Q : Val → Sto → Prop}
theorem s38 (hn : 2 ≤ n) {a b : Int} {p : Pl} (h : Pok p) (hq : Q (.d (.int (tail' p a b))) st) : Go (callN pr n 38 [.d (plD p), .d (.tuple [.int a, .int b])]) st Q := by
  obtain ⟨m, rfl⟩ : ∃ m, n = m + 1 := ⟨n - 1, by omega⟩
  rw [go_call (fi := f38) rfl rfl]
  simp (maxSteps := 2000000) (disch := first | omega | assumption | (simp only [List.length_map, List.length_append, List.length_cons, List.length_nil, List.length_take, List.length_drop, List.length_reverse, List.length_replicate]; omega)) only [f38, ↓w_nil, ↓w_cons, ↓g_comp, ↓g_comp2, ↓s_for, ↓s_while, ↓g_non, ↓g_bl, ↓g_int, ↓g_str, ↓g_v, ↓g_g, ↓g_get0, ↓g_gets, ↓g_neg, ↓g_bin, ↓g_cmp, ↓g_cmp2, ↓g_and, ↓g_or, ↓g_not, ↓g_ite, ↓g_call, ↓g_callK, ↓g_bi, ↓g_listC, ↓g_rgT, ↓g_rgL, ↓g_isi, ↓g_isiT, ↓g_tup, ↓g_lst, ↓g_ix, ↓g_sl, ↓g_rev, ↓g_app, ↓g_upper, ↓t_and, ↓t_or, ↓t_not, ↓t_ite, ↓t_bl, ↓t_cmp, ↓t_cmp2, ↓t_call, ↓t_callK, ↓t_bi, ↓t_isi, ↓t_isiT, ↓t_ix, ↓l_nil, ↓l_cons, ↓lt_nil, ↓lt_cons, ↓looks_nil, ↓looks_cons, ↓moves_nil, ↓moves_cons, ↓i_seq, ↓i_rng1, ↓i_rng2, ↓i_enum, ↓i_zip, ↓it_list, ↓it_tuple, ↓it_s, ↓gg_n, ↓gg_t, ↓gg_ix, ↓gs_nil, ↓gs_cons, ↓g_tupS, ↓g_lstS, ↓g_lstCS, ↓g_mkL, ↓g_mkC, ↓g_ixT, ↓g_ixL, ↓g_negK, ↓g_asCell, ↓p_nil, ↓p_one, ↓s_pass, ↓s_brk, ↓s_cont, ↓s_never, ↓s_expr, ↓s_ret, ↓s_retN, ↓s_asg, ↓s_par, ↓s_par3, ↓g_rgV, ↓g_rgVK, ↓g_revL, ↓g_revT, ↓s_aug, ↓s_iff, ↓b_add, ↓b_sub, ↓b_mulr, ↓b_mull, ↓b_fdiv, ↓b_mod, ↓b_addLS, ↓b_addTS, ↓q_eqI, ↓q_neI, ↓q_eqB, ↓q_neB, ↓q_lt, ↓q_le, ↓q_gt, ↓q_ge, ↓q_isN, ↓q_isB, ↓q_isnB, ↓isB_b, ↓q_isnN, ↓q_inB, ↓q_notinB, ↓f_lenT, ↓f_lenL, ↓f_int, ↓f_abs, ↓f_max2, ↓f_min2, ↓f_tupleL, ↓f_tupleT, ↓f_listL, ↓f_listT, ↓f_divmod, ↓f_all, ↓f_any, ↓f_sum, ↓a_0, ↓a_1, ↓a_2, ↓t_v, ↓go_cons, ↓go_nil, ↓go_bind, ↓go_pure, ↓go_lookM, ↓go_lookTM, ↓go_truB, ↓go_noneM, ↓go_moveM, ↓go_ite, ↓go_fin, startE, tyB, isNone, Tgs.len, Exs.len, List.map_cons, List.map_nil, List.length_cons, List.length_nil, List.cons_append, List.nil_append, List.take_length, if_true, Bool.not_false, Bool.not_true, List.set_cons_zero, List.set_cons_succ, Nat.reduceAdd, Nat.reduceSub, List.reduceReplicate, Bool.false_eq_true, if_false, reduceIte, and_self, Bool.true_eq_false, decide_true, decide_false]
  refine s37 (by omega) h ?_
  rw [tr_eq]
  simp (maxSteps := 2000000) (disch := first | omega | assumption | (simp only [List.length_map, List.length_append, List.length_cons, List.length_nil, List.length_take, List.length_drop, List.length_reverse, List.length_replicate]; omega)) only [↓w_nil, ↓w_cons, ↓g_comp, ↓g_comp2, ↓s_for, ↓s_while, ↓g_non, ↓g_bl, ↓g_int, ↓g_str, ↓g_v, ↓g_g, ↓g_get0, ↓g_gets, ↓g_neg, ↓g_bin, ↓g_cmp, ↓g_cmp2, ↓g_and, ↓g_or, ↓g_not, ↓g_ite, ↓g_call, ↓g_callK, ↓g_bi, ↓g_listC, ↓g_rgT, ↓g_rgL, ↓g_isi, ↓g_isiT, ↓g_tup, ↓g_lst, ↓g_ix, ↓g_sl, ↓g_rev, ↓g_app, ↓g_upper, ↓t_and, ↓t_or, ↓t_not, ↓t_ite, ↓t_bl, ↓t_cmp, ↓t_cmp2, ↓t_call, ↓t_callK, ↓t_bi, ↓t_isi, ↓t_isiT, ↓t_ix, ↓l_nil, ↓l_cons, ↓lt_nil, ↓lt_cons, ↓looks_nil, ↓looks_cons, ↓moves_nil, ↓moves_cons, ↓i_seq, ↓i_rng1, ↓i_rng2, ↓i_enum, ↓i_zip, ↓it_list, ↓it_tuple, ↓it_s, ↓gg_n, ↓gg_t, ↓gg_ix, ↓gs_nil, ↓gs_cons, ↓g_tupS, ↓g_lstS, ↓g_lstCS, ↓g_mkL, ↓g_mkC, ↓g_ixT, ↓g_ixL, ↓g_negK, ↓g_asCell, ↓p_nil, ↓p_one, ↓s_pass, ↓s_brk, ↓s_cont, ↓s_never, ↓s_expr, ↓s_ret, ↓s_retN, ↓s_asg, ↓s_par, ↓s_par3, ↓g_rgV, ↓g_rgVK, ↓g_revL, ↓g_revT, ↓s_aug, ↓s_iff, ↓b_add, ↓b_sub, ↓b_mulr, ↓b_mull, ↓b_fdiv, ↓b_mod, ↓b_addLS, ↓b_addTS, ↓q_eqI, ↓q_neI, ↓q_eqB, ↓q_neB, ↓q_lt, ↓q_le, ↓q_gt, ↓q_ge, ↓q_isN, ↓q_isB, ↓q_isnB, ↓isB_b, ↓q_isnN, ↓q_inB, ↓q_notinB, ↓f_lenT, ↓f_lenL, ↓f_int, ↓f_abs, ↓f_max2, ↓f_min2, ↓f_tupleL, ↓f_tupleT, ↓f_listL, ↓f_listT, ↓f_divmod, ↓f_all, ↓f_any, ↓f_sum, ↓a_0, ↓a_1, ↓a_2, ↓t_v, ↓go_cons, ↓go_nil, ↓go_bind, ↓go_pure, ↓go_lookM, ↓go_lookTM, ↓go_truB, ↓go_noneM, ↓go_moveM, ↓go_ite, ↓go_fin, startE, tyB, isNone, Tgs.len, Exs.len, List.map_cons, List.map_nil, List.length_cons, List.length_nil, List.cons_append, List.nil_append, List.take_length, if_true, Bool.not_false, Bool.not_true, List.set_cons_zero, List.set_cons_succ, Nat.reduceAdd, Nat.reduceSub, List.reduceReplicate, Bool.false_eq_true, if_false, reduceIte, and_self, Bool.true_eq_false, decide_true, decide_false]
  rw [show b - 1 + tail' p a b - b + 1 = tail' p a b by omega]
  exact hq
theorem s33 (hn : 1 ≤ n) : Go (callN pr n 33 [.d (.int i)]) st Q ↔ Q (.d (.bool true)) st := by
  obtain ⟨m, rfl⟩ : ∃ m, n = m + 1 := ⟨n - 1, by omega⟩
  rw [go_call (fi := f33) rfl rfl]
  simp (maxSteps := 2000000) (disch := first | omega | assumption | (simp only [List.length_map, List.length_append, List.length_cons, List.length_nil, List.length_take, List.length_drop, List.length_reverse, List.length_replicate]; omega)) only [f33, ↓w_nil, ↓w_cons, ↓g_comp, ↓g_comp2, ↓s_for, ↓s_while, ↓g_non, ↓g_bl, ↓g_int, ↓g_str, ↓g_v, ↓g_g, ↓g_get0, ↓g_gets, ↓g_neg, ↓g_bin, ↓g_cmp, ↓g_cmp2, ↓g_and, ↓g_or, ↓g_not, ↓g_ite, ↓g_call, ↓g_callK, ↓g_bi, ↓g_listC, ↓g_rgT, ↓g_rgL, ↓g_isi, ↓g_isiT, ↓g_tup, ↓g_lst, ↓g_ix, ↓g_sl, ↓g_rev, ↓g_app, ↓g_upper, ↓t_and, ↓t_or, ↓t_not, ↓t_ite, ↓t_bl, ↓t_cmp, ↓t_cmp2, ↓t_call, ↓t_callK, ↓t_bi, ↓t_isi, ↓t_isiT, ↓t_ix, ↓l_nil, ↓l_cons, ↓lt_nil, ↓lt_cons, ↓looks_nil, ↓looks_cons, ↓moves_nil, ↓moves_cons, ↓i_seq, ↓i_rng1, ↓i_rng2, ↓i_enum, ↓i_zip, ↓it_list, ↓it_tuple, ↓it_s, ↓gg_n, ↓gg_t, ↓gg_ix, ↓gs_nil, ↓gs_cons, ↓g_tupS, ↓g_lstS, ↓g_lstCS, ↓g_mkL, ↓g_mkC, ↓g_ixT, ↓g_ixL, ↓g_negK, ↓g_asCell, ↓p_nil, ↓p_one, ↓s_pass, ↓s_brk, ↓s_cont, ↓s_never, ↓s_expr, ↓s_ret, ↓s_retN, ↓s_asg, ↓s_par, ↓s_par3, ↓g_rgV, ↓g_rgVK, ↓g_revL, ↓g_revT, ↓s_aug, ↓s_iff, ↓b_add, ↓b_sub, ↓b_mulr, ↓b_mull, ↓b_fdiv, ↓b_mod, ↓b_addLS, ↓b_addTS, ↓q_eqI, ↓q_neI, ↓q_eqB, ↓q_neB, ↓q_lt, ↓q_le, ↓q_gt, ↓q_ge, ↓q_isN, ↓q_isB, ↓q_isnB, ↓isB_b, ↓q_isnN, ↓q_inB, ↓q_notinB, ↓f_lenT, ↓f_lenL, ↓f_int, ↓f_abs, ↓f_max2, ↓f_min2, ↓f_tupleL, ↓f_tupleT, ↓f_listL, ↓f_listT, ↓f_divmod, ↓f_all, ↓f_any, ↓f_sum, ↓a_0, ↓a_1, ↓a_2, ↓t_v, ↓go_cons, ↓go_nil, ↓go_bind, ↓go_pure, ↓go_lookM, ↓go_lookTM, ↓go_truB, ↓go_noneM, ↓go_moveM, ↓go_ite, ↓go_fin, startE, tyB, isNone, Tgs.len, Exs.len, List.map_cons, List.map_nil, List.length_cons, List.length_nil, List.cons_append, List.nil_append, List.take_length, if_true, Bool.not_false, Bool.not_true, List.set_cons_zero, List.set_cons_succ, Nat.reduceAdd, Nat.reduceSub, List.reduceReplicate, Bool.false_eq_true, if_false, reduceIte, and_self, Bool.true_eq_false, decide_true, decide_false]
theorem s34 (hn : 2 ≤ n) (h0 : 0 ≤ i) (h1 : i ≤ j) : Go (callN pr n 34 [.d (.int i), .d (.int j)]) st Q ↔ Q (.d (.bool true)) st := by
  obtain ⟨m, rfl⟩ : ∃ m, n = m + 1 := ⟨n - 1, by omega⟩
  rw [go_call (fi := f34) rfl rfl]
  simp (maxSteps := 2000000) (disch := first | omega | assumption | (simp only [List.length_map, List.length_append, List.length_cons, List.length_nil, List.length_take, List.length_drop, List.length_reverse, List.length_replicate]; omega)) only [f34, s33, h0, h1, ↓w_nil, ↓w_cons, ↓g_comp, ↓g_comp2, ↓s_for, ↓s_while, ↓g_non, ↓g_bl, ↓g_int, ↓g_str, ↓g_v, ↓g_g, ↓g_get0, ↓g_gets, ↓g_neg, ↓g_bin, ↓g_cmp, ↓g_cmp2, ↓g_and, ↓g_or, ↓g_not, ↓g_ite, ↓g_call, ↓g_callK, ↓g_bi, ↓g_listC, ↓g_rgT, ↓g_rgL, ↓g_isi, ↓g_isiT, ↓g_tup, ↓g_lst, ↓g_ix, ↓g_sl, ↓g_rev, ↓g_app, ↓g_upper, ↓t_and, ↓t_or, ↓t_not, ↓t_ite, ↓t_bl, ↓t_cmp, ↓t_cmp2, ↓t_call, ↓t_callK, ↓t_bi, ↓t_isi, ↓t_isiT, ↓t_ix, ↓l_nil, ↓l_cons, ↓lt_nil, ↓lt_cons, ↓looks_nil, ↓looks_cons, ↓moves_nil, ↓moves_cons, ↓i_seq, ↓i_rng1, ↓i_rng2, ↓i_enum, ↓i_zip, ↓it_list, ↓it_tuple, ↓it_s, ↓gg_n, ↓gg_t, ↓gg_ix, ↓gs_nil, ↓gs_cons, ↓g_tupS, ↓g_lstS, ↓g_lstCS, ↓g_mkL, ↓g_mkC, ↓g_ixT, ↓g_ixL, ↓g_negK, ↓g_asCell, ↓p_nil, ↓p_one, ↓s_pass, ↓s_brk, ↓s_cont, ↓s_never, ↓s_expr, ↓s_ret, ↓s_retN, ↓s_asg, ↓s_par, ↓s_par3, ↓g_rgV, ↓g_rgVK, ↓g_revL, ↓g_revT, ↓s_aug, ↓s_iff, ↓b_add, ↓b_sub, ↓b_mulr, ↓b_mull, ↓b_fdiv, ↓b_mod, ↓b_addLS, ↓b_addTS, ↓q_eqI, ↓q_neI, ↓q_eqB, ↓q_neB, ↓q_lt, ↓q_le, ↓q_gt, ↓q_ge, ↓q_isN, ↓q_isB, ↓q_isnB, ↓isB_b, ↓q_isnN, ↓q_inB, ↓q_notinB, ↓f_lenT, ↓f_lenL, ↓f_int, ↓f_abs, ↓f_max2, ↓f_min2, ↓f_tupleL, ↓f_tupleT, ↓f_listL, ↓f_listT, ↓f_divmod, ↓f_all, ↓f_any, ↓f_sum, ↓a_0, ↓a_1, ↓a_2, ↓t_v, ↓go_cons, ↓go_nil, ↓go_bind, ↓go_pure, ↓go_lookM, ↓go_lookTM, ↓go_truB, ↓go_noneM, ↓go_moveM, ↓go_ite, ↓go_fin, startE, tyB, isNone, Tgs.len, Exs.len, List.map_cons, List.map_nil, List.length_cons, List.length_nil, List.cons_append, List.nil_append, List.take_length, if_true, Bool.not_false, Bool.not_true, List.set_cons_zero, List.set_cons_succ, Nat.reduceAdd, Nat.reduceSub, List.reduceReplicate, Bool.false_eq_true, if_false, reduceIte, and_self, Bool.true_eq_false, decide_true, decide_false]
theorem s36 (hn : 3 ≤ n) {a b : Int} (h : Sok a b) : Go (callN pr n 36 [.d (.tuple [.int a, .int b])]) st Q ↔ Q (.d (.bool true)) st := by
  obtain ⟨m, rfl⟩ : ∃ m, n = m + 1 := ⟨n - 1, by omega⟩
  rw [go_call (fi := f36) rfl rfl]
  have h1 := h.a0
  have h2 := h.ab
  have h3 := h.b9
  simp (maxSteps := 2000000) (disch := first | omega | assumption | (simp only [List.length_map, List.length_append, List.length_cons, List.length_nil, List.length_take, List.length_drop, List.length_reverse, List.length_replicate]; omega)) only [f36, ↓w_nil, ↓w_cons, ↓g_comp, ↓g_comp2, ↓s_for, ↓s_while, ↓g_non, ↓g_bl, ↓g_int, ↓g_str, ↓g_v, ↓g_g, ↓g_get0, ↓g_gets, ↓g_neg, ↓g_bin, ↓g_cmp, ↓g_cmp2, ↓g_and, ↓g_or, ↓g_not, ↓g_ite, ↓g_call, ↓g_callK, ↓g_bi, ↓g_listC, ↓g_rgT, ↓g_rgL, ↓g_isi, ↓g_isiT, ↓g_tup, ↓g_lst, ↓g_ix, ↓g_sl, ↓g_rev, ↓g_app, ↓g_upper, ↓t_and, ↓t_or, ↓t_not, ↓t_ite, ↓t_bl, ↓t_cmp, ↓t_cmp2, ↓t_call, ↓t_callK, ↓t_bi, ↓t_isi, ↓t_isiT, ↓t_ix, ↓l_nil, ↓l_cons, ↓lt_nil, ↓lt_cons, ↓looks_nil, ↓looks_cons, ↓moves_nil, ↓moves_cons, ↓i_seq, ↓i_rng1, ↓i_rng2, ↓i_enum, ↓i_zip, ↓it_list, ↓it_tuple, ↓it_s, ↓gg_n, ↓gg_t, ↓gg_ix, ↓gs_nil, ↓gs_cons, ↓g_tupS, ↓g_lstS, ↓g_lstCS, ↓g_mkL, ↓g_mkC, ↓g_ixT, ↓g_ixL, ↓g_negK, ↓g_asCell, ↓p_nil, ↓p_one, ↓s_pass, ↓s_brk, ↓s_cont, ↓s_never, ↓s_expr, ↓s_ret, ↓s_retN, ↓s_asg, ↓s_par, ↓s_par3, ↓g_rgV, ↓g_rgVK, ↓g_revL, ↓g_revT, ↓s_aug, ↓s_iff, ↓b_add, ↓b_sub, ↓b_mulr, ↓b_mull, ↓b_fdiv, ↓b_mod, ↓b_addLS, ↓b_addTS, ↓q_eqI, ↓q_neI, ↓q_eqB, ↓q_neB, ↓q_lt, ↓q_le, ↓q_gt, ↓q_ge, ↓q_isN, ↓q_isB, ↓q_isnB, ↓isB_b, ↓q_isnN, ↓q_inB, ↓q_notinB, ↓f_lenT, ↓f_lenL, ↓f_int, ↓f_abs, ↓f_max2, ↓f_min2, ↓f_tupleL, ↓f_tupleT, ↓f_listL, ↓f_listT, ↓f_divmod, ↓f_all, ↓f_any, ↓f_sum, ↓a_0, ↓a_1, ↓a_2, ↓t_v, ↓go_cons, ↓go_nil, ↓go_bind, ↓go_pure, ↓go_lookM, ↓go_lookTM, ↓go_truB, ↓go_noneM, ↓go_moveM, ↓go_ite, ↓go_fin, startE, tyB, isNone, Tgs.len, Exs.len, List.map_cons, List.map_nil, List.length_cons, List.length_nil, List.cons_append, List.nil_append, List.take_length, if_true, Bool.not_false, Bool.not_true, List.set_cons_zero, List.set_cons_succ, Nat.reduceAdd, Nat.reduceSub, List.reduceReplicate, Bool.false_eq_true, if_false, reduceIte, and_self, Bool.true_eq_false, decide_true, decide_false]
  rw [show (!decide (((2 : Nat) : Int) = 2)) = false by decide, if_neg Bool.false_ne_true, show [PyData.int a, PyData.int b] = [a, b].map .int from rfl]
  rw [go_of (compL_map (l := [a, b]) (f := PyData.int) (g := fun d => [PyData.bool true]) (fun d hd => ?_))]
  · rw [flatMap_one, show ([a, b].map fun d => PyData.bool true) = [true, true].map .bool from rfl]
    simp (maxSteps := 2000000) (disch := first | omega | assumption | (simp only [List.length_map, List.length_append, List.length_cons, List.length_nil, List.length_take, List.length_drop, List.length_reverse, List.length_replicate]; omega)) only [q_inB, h2, ↓w_nil, ↓w_cons, ↓g_comp, ↓g_comp2, ↓s_for, ↓s_while, ↓g_non, ↓g_bl, ↓g_int, ↓g_str, ↓g_v, ↓g_g, ↓g_get0, ↓g_gets, ↓g_neg, ↓g_bin, ↓g_cmp, ↓g_cmp2, ↓g_and, ↓g_or, ↓g_not, ↓g_ite, ↓g_call, ↓g_callK, ↓g_bi, ↓g_listC, ↓g_rgT, ↓g_rgL, ↓g_isi, ↓g_isiT, ↓g_tup, ↓g_lst, ↓g_ix, ↓g_sl, ↓g_rev, ↓g_app, ↓g_upper, ↓t_and, ↓t_or, ↓t_not, ↓t_ite, ↓t_bl, ↓t_cmp, ↓t_cmp2, ↓t_call, ↓t_callK, ↓t_bi, ↓t_isi, ↓t_isiT, ↓t_ix, ↓l_nil, ↓l_cons, ↓lt_nil, ↓lt_cons, ↓looks_nil, ↓looks_cons, ↓moves_nil, ↓moves_cons, ↓i_seq, ↓i_rng1, ↓i_rng2, ↓i_enum, ↓i_zip, ↓it_list, ↓it_tuple, ↓it_s, ↓gg_n, ↓gg_t, ↓gg_ix, ↓gs_nil, ↓gs_cons, ↓g_tupS, ↓g_lstS, ↓g_lstCS, ↓g_mkL, ↓g_mkC, ↓g_ixT, ↓g_ixL, ↓g_negK, ↓g_asCell, ↓p_nil, ↓p_one, ↓s_pass, ↓s_brk, ↓s_cont, ↓s_never, ↓s_expr, ↓s_ret, ↓s_retN, ↓s_asg, ↓s_par, ↓s_par3, ↓g_rgV, ↓g_rgVK, ↓g_revL, ↓g_revT, ↓s_aug, ↓s_iff, ↓b_add, ↓b_sub, ↓b_mulr, ↓b_mull, ↓b_fdiv, ↓b_mod, ↓b_addLS, ↓b_addTS, ↓q_eqI, ↓q_neI, ↓q_eqB, ↓q_neB, ↓q_lt, ↓q_le, ↓q_gt, ↓q_ge, ↓q_isN, ↓q_isB, ↓q_isnB, ↓isB_b, ↓q_isnN, ↓q_inB, ↓q_notinB, ↓f_lenT, ↓f_lenL, ↓f_int, ↓f_abs, ↓f_max2, ↓f_min2, ↓f_tupleL, ↓f_tupleT, ↓f_listL, ↓f_listT, ↓f_divmod, ↓f_all, ↓f_any, ↓f_sum, ↓a_0, ↓a_1, ↓a_2, ↓t_v, ↓go_cons, ↓go_nil, ↓go_bind, ↓go_pure, ↓go_lookM, ↓go_lookTM, ↓go_truB, ↓go_noneM, ↓go_moveM, ↓go_ite, ↓go_fin, startE, tyB, isNone, Tgs.len, Exs.len, List.map_cons, List.map_nil, List.length_cons, List.length_nil, List.cons_append, List.nil_append, List.take_length, if_true, Bool.not_false, Bool.not_true, List.set_cons_zero, List.set_cons_succ, Nat.reduceAdd, Nat.reduceSub, List.reduceReplicate, Bool.false_eq_true, if_false, reduceIte, and_self, Bool.true_eq_false, decide_true, decide_false]
    simp [h2]
  · have hd' : 0 ≤ d ∧ d ≤ 99999 := by
      simp only [List.mem_cons, List.not_mem_nil, or_false] at hd
      rcases hd with rfl | rfl <;> omega
    apply ok_of
    simp (maxSteps := 2000000) (disch := first | omega | assumption | (simp only [List.length_map, List.length_append, List.length_cons, List.length_nil, List.length_take, List.length_drop, List.length_reverse, List.length_replicate]; omega)) only [↓g_compF, wipeE, s34 _ hd'.1 hd'.2, ↓w_nil, ↓w_cons, ↓g_comp, ↓g_comp2, ↓s_for, ↓s_while, ↓g_non, ↓g_bl, ↓g_int, ↓g_str, ↓g_v, ↓g_g, ↓g_get0, ↓g_gets, ↓g_neg, ↓g_bin, ↓g_cmp, ↓g_cmp2, ↓g_and, ↓g_or, ↓g_not, ↓g_ite, ↓g_call, ↓g_callK, ↓g_bi, ↓g_listC, ↓g_rgT, ↓g_rgL, ↓g_isi, ↓g_isiT, ↓g_tup, ↓g_lst, ↓g_ix, ↓g_sl, ↓g_rev, ↓g_app, ↓g_upper, ↓t_and, ↓t_or, ↓t_not, ↓t_ite, ↓t_bl, ↓t_cmp, ↓t_cmp2, ↓t_call, ↓t_callK, ↓t_bi, ↓t_isi, ↓t_isiT, ↓t_ix, ↓l_nil, ↓l_cons, ↓lt_nil, ↓lt_cons, ↓looks_nil, ↓looks_cons, ↓moves_nil, ↓moves_cons, ↓i_seq, ↓i_rng1, ↓i_rng2, ↓i_enum, ↓i_zip, ↓it_list, ↓it_tuple, ↓it_s, ↓gg_n, ↓gg_t, ↓gg_ix, ↓gs_nil, ↓gs_cons, ↓g_tupS, ↓g_lstS, ↓g_lstCS, ↓g_mkL, ↓g_mkC, ↓g_ixT, ↓g_ixL, ↓g_negK, ↓g_asCell, ↓p_nil, ↓p_one, ↓s_pass, ↓s_brk, ↓s_cont, ↓s_never, ↓s_expr, ↓s_ret, ↓s_retN, ↓s_asg, ↓s_par, ↓s_par3, ↓g_rgV, ↓g_rgVK, ↓g_revL, ↓g_revT, ↓s_aug, ↓s_iff, ↓b_add, ↓b_sub, ↓b_mulr, ↓b_mull, ↓b_fdiv, ↓b_mod, ↓b_addLS, ↓b_addTS, ↓q_eqI, ↓q_neI, ↓q_eqB, ↓q_neB, ↓q_lt, ↓q_le, ↓q_gt, ↓q_ge, ↓q_isN, ↓q_isB, ↓q_isnB, ↓isB_b, ↓q_isnN, ↓q_inB, ↓q_notinB, ↓f_lenT, ↓f_lenL, ↓f_int, ↓f_abs, ↓f_max2, ↓f_min2, ↓f_tupleL, ↓f_tupleT, ↓f_listL, ↓f_listT, ↓f_divmod, ↓f_all, ↓f_any, ↓f_sum, ↓a_0, ↓a_1, ↓a_2, ↓t_v, ↓go_cons, ↓go_nil, ↓go_bind, ↓go_pure, ↓go_lookM, ↓go_lookTM, ↓go_truB, ↓go_noneM, ↓go_moveM, ↓go_ite, ↓go_fin, startE, tyB, isNone, Tgs.len, Exs.len, List.map_cons, List.map_nil, List.length_cons, List.length_nil, List.cons_append, List.nil_append, List.take_length, if_true, Bool.not_false, Bool.not_true, List.set_cons_zero, List.set_cons_succ, Nat.reduceAdd, Nat.reduceSub, List.reduceReplicate, Bool.false_eq_true, if_false, reduceIte, and_self, Bool.true_eq_false, decide_true, decide_false]
theorem gcdloop {z1 z2 z3 z4 z5 x7 x8 x9 : Option Val} {m : Nat} {QF : RL.Flow → Sto → Prop} (h1 : 0 ≤ i) (h2 : 0 ≤ j) (h3 : j ≤ 100000) (hq : QF (.nx [z1, z2, z3, z4, z5, some (.d (.int (gcdI i j))), some (.d (.int 0)), x7, x8, x9]) st) :
    Go (whileL (ev (callN pr m) pr.glb (.cmp .gt (.v 6) (.int 0))).tst (exSs (callN pr m) pr.glb (.cons (.par 5 6 (.v 6) (.bin .mod (.bi .int (.cons (.v 5) .nil)) (.v 6))) .nil)) 1000000 [z1, z2, z3, z4, z5, some (.d (.int i)), some (.d (.int j)), x7, x8, x9]) st QF := by
  refine go_whileL (fun k ρ s => ∃ u v, k = v.toNat ∧ 0 ≤ u ∧ 0 ≤ v ∧ gcdI u v = gcdI i j ∧ ρ = [z1, z2, z3, z4, z5, some (.d (.int u)), some (.d (.int v)), x7, x8, x9] ∧ s = st) ?_ _ j.toNat _ _ (by omega) ⟨i, j, rfl, h1, h2, rfl, rfl, rfl⟩
  rintro k ρ s ⟨u, v, rfl, hu, hv, hg, rfl, rfl⟩
  simp (maxSteps := 2000000) (disch := first | omega | assumption | (simp only [List.length_map, List.length_append, List.length_cons, List.length_nil, List.length_take, List.length_drop, List.length_reverse, List.length_replicate]; omega)) only [↓w_nil, ↓w_cons, ↓g_comp, ↓g_comp2, ↓s_for, ↓s_while, ↓g_non, ↓g_bl, ↓g_int, ↓g_str, ↓g_v, ↓g_g, ↓g_get0, ↓g_gets, ↓g_neg, ↓g_bin, ↓g_cmp, ↓g_cmp2, ↓g_and, ↓g_or, ↓g_not, ↓g_ite, ↓g_call, ↓g_callK, ↓g_bi, ↓g_listC, ↓g_rgT, ↓g_rgL, ↓g_isi, ↓g_isiT, ↓g_tup, ↓g_lst, ↓g_ix, ↓g_sl, ↓g_rev, ↓g_app, ↓g_upper, ↓t_and, ↓t_or, ↓t_not, ↓t_ite, ↓t_bl, ↓t_cmp, ↓t_cmp2, ↓t_call, ↓t_callK, ↓t_bi, ↓t_isi, ↓t_isiT, ↓t_ix, ↓l_nil, ↓l_cons, ↓lt_nil, ↓lt_cons, ↓looks_nil, ↓looks_cons, ↓moves_nil, ↓moves_cons, ↓i_seq, ↓i_rng1, ↓i_rng2, ↓i_enum, ↓i_zip, ↓it_list, ↓it_tuple, ↓it_s, ↓gg_n, ↓gg_t, ↓gg_ix, ↓gs_nil, ↓gs_cons, ↓g_tupS, ↓g_lstS, ↓g_lstCS, ↓g_mkL, ↓g_mkC, ↓g_ixT, ↓g_ixL, ↓g_negK, ↓g_asCell, ↓p_nil, ↓p_one, ↓s_pass, ↓s_brk, ↓s_cont, ↓s_never, ↓s_expr, ↓s_ret, ↓s_retN, ↓s_asg, ↓s_par, ↓s_par3, ↓g_rgV, ↓g_rgVK, ↓g_revL, ↓g_revT, ↓s_aug, ↓s_iff, ↓b_add, ↓b_sub, ↓b_mulr, ↓b_mull, ↓b_fdiv, ↓b_mod, ↓b_addLS, ↓b_addTS, ↓q_eqI, ↓q_neI, ↓q_eqB, ↓q_neB, ↓q_lt, ↓q_le, ↓q_gt, ↓q_ge, ↓q_isN, ↓q_isB, ↓q_isnB, ↓isB_b, ↓q_isnN, ↓q_inB, ↓q_notinB, ↓f_lenT, ↓f_lenL, ↓f_int, ↓f_abs, ↓f_max2, ↓f_min2, ↓f_tupleL, ↓f_tupleT, ↓f_listL, ↓f_listT, ↓f_divmod, ↓f_all, ↓f_any, ↓f_sum, ↓a_0, ↓a_1, ↓a_2, ↓t_v, ↓go_cons, ↓go_nil, ↓go_bind, ↓go_pure, ↓go_lookM, ↓go_lookTM, ↓go_truB, ↓go_noneM, ↓go_moveM, ↓go_ite, ↓go_fin, startE, tyB, isNone, Tgs.len, Exs.len, List.map_cons, List.map_nil, List.length_cons, List.length_nil, List.cons_append, List.nil_append, List.take_length, if_true, Bool.not_false, Bool.not_true, List.set_cons_zero, List.set_cons_succ, Nat.reduceAdd, Nat.reduceSub, List.reduceReplicate, Bool.false_eq_true, if_false, reduceIte, and_self, Bool.true_eq_false, decide_true, decide_false]
  by_cases hc : 0 < v
  · simp (maxSteps := 2000000) (disch := first | omega | assumption | (simp only [List.length_map, List.length_append, List.length_cons, List.length_nil, List.length_take, List.length_drop, List.length_reverse, List.length_replicate]; omega)) only [hc, ↓w_nil, ↓w_cons, ↓g_comp, ↓g_comp2, ↓s_for, ↓s_while, ↓g_non, ↓g_bl, ↓g_int, ↓g_str, ↓g_v, ↓g_g, ↓g_get0, ↓g_gets, ↓g_neg, ↓g_bin, ↓g_cmp, ↓g_cmp2, ↓g_and, ↓g_or, ↓g_not, ↓g_ite, ↓g_call, ↓g_callK, ↓g_bi, ↓g_listC, ↓g_rgT, ↓g_rgL, ↓g_isi, ↓g_isiT, ↓g_tup, ↓g_lst, ↓g_ix, ↓g_sl, ↓g_rev, ↓g_app, ↓g_upper, ↓t_and, ↓t_or, ↓t_not, ↓t_ite, ↓t_bl, ↓t_cmp, ↓t_cmp2, ↓t_call, ↓t_callK, ↓t_bi, ↓t_isi, ↓t_isiT, ↓t_ix, ↓l_nil, ↓l_cons, ↓lt_nil, ↓lt_cons, ↓looks_nil, ↓looks_cons, ↓moves_nil, ↓moves_cons, ↓i_seq, ↓i_rng1, ↓i_rng2, ↓i_enum, ↓i_zip, ↓it_list, ↓it_tuple, ↓it_s, ↓gg_n, ↓gg_t, ↓gg_ix, ↓gs_nil, ↓gs_cons, ↓g_tupS, ↓g_lstS, ↓g_lstCS, ↓g_mkL, ↓g_mkC, ↓g_ixT, ↓g_ixL, ↓g_negK, ↓g_asCell, ↓p_nil, ↓p_one, ↓s_pass, ↓s_brk, ↓s_cont, ↓s_never, ↓s_expr, ↓s_ret, ↓s_retN, ↓s_asg, ↓s_par, ↓s_par3, ↓g_rgV, ↓g_rgVK, ↓g_revL, ↓g_revT, ↓s_aug, ↓s_iff, ↓b_add, ↓b_sub, ↓b_mulr, ↓b_mull, ↓b_fdiv, ↓b_mod, ↓b_addLS, ↓b_addTS, ↓q_eqI, ↓q_neI, ↓q_eqB, ↓q_neB, ↓q_lt, ↓q_le, ↓q_gt, ↓q_ge, ↓q_isN, ↓q_isB, ↓q_isnB, ↓isB_b, ↓q_isnN, ↓q_inB, ↓q_notinB, ↓f_lenT, ↓f_lenL, ↓f_int, ↓f_abs, ↓f_max2, ↓f_min2, ↓f_tupleL, ↓f_tupleT, ↓f_listL, ↓f_listT, ↓f_divmod, ↓f_all, ↓f_any, ↓f_sum, ↓a_0, ↓a_1, ↓a_2, ↓t_v, ↓go_cons, ↓go_nil, ↓go_bind, ↓go_pure, ↓go_lookM, ↓go_lookTM, ↓go_truB, ↓go_noneM, ↓go_moveM, ↓go_ite, ↓go_fin, startE, tyB, isNone, Tgs.len, Exs.len, List.map_cons, List.map_nil, List.length_cons, List.length_nil, List.cons_append, List.nil_append, List.take_length, if_true, Bool.not_false, Bool.not_true, List.set_cons_zero, List.set_cons_succ, Nat.reduceAdd, Nat.reduceSub, List.reduceReplicate, Bool.false_eq_true, if_false, reduceIte, and_self, Bool.true_eq_false, decide_true, decide_false]
    have := Int.emod_lt_of_pos u hc
    have := Int.emod_nonneg u (show v ≠ 0 by omega)
    exact ⟨_, by omega, v, u % v, rfl, by omega, by omega, by rw [gcd_step hu hc, hg], rfl, by first | rfl | trivial⟩
  · simp (maxSteps := 2000000) (disch := first | omega | assumption | (simp only [List.length_map, List.length_append, List.length_cons, List.length_nil, List.length_take, List.length_drop, List.length_reverse, List.length_replicate]; omega)) only [hc, ↓w_nil, ↓w_cons, ↓g_comp, ↓g_comp2, ↓s_for, ↓s_while, ↓g_non, ↓g_bl, ↓g_int, ↓g_str, ↓g_v, ↓g_g, ↓g_get0, ↓g_gets, ↓g_neg, ↓g_bin, ↓g_cmp, ↓g_cmp2, ↓g_and, ↓g_or, ↓g_not, ↓g_ite, ↓g_call, ↓g_callK, ↓g_bi, ↓g_listC, ↓g_rgT, ↓g_rgL, ↓g_isi, ↓g_isiT, ↓g_tup, ↓g_lst, ↓g_ix, ↓g_sl, ↓g_rev, ↓g_app, ↓g_upper, ↓t_and, ↓t_or, ↓t_not, ↓t_ite, ↓t_bl, ↓t_cmp, ↓t_cmp2, ↓t_call, ↓t_callK, ↓t_bi, ↓t_isi, ↓t_isiT, ↓t_ix, ↓l_nil, ↓l_cons, ↓lt_nil, ↓lt_cons, ↓looks_nil, ↓looks_cons, ↓moves_nil, ↓moves_cons, ↓i_seq, ↓i_rng1, ↓i_rng2, ↓i_enum, ↓i_zip, ↓it_list, ↓it_tuple, ↓it_s, ↓gg_n, ↓gg_t, ↓gg_ix, ↓gs_nil, ↓gs_cons, ↓g_tupS, ↓g_lstS, ↓g_lstCS, ↓g_mkL, ↓g_mkC, ↓g_ixT, ↓g_ixL, ↓g_negK, ↓g_asCell, ↓p_nil, ↓p_one, ↓s_pass, ↓s_brk, ↓s_cont, ↓s_never, ↓s_expr, ↓s_ret, ↓s_retN, ↓s_asg, ↓s_par, ↓s_par3, ↓g_rgV, ↓g_rgVK, ↓g_revL, ↓g_revT, ↓s_aug, ↓s_iff, ↓b_add, ↓b_sub, ↓b_mulr, ↓b_mull, ↓b_fdiv, ↓b_mod, ↓b_addLS, ↓b_addTS, ↓q_eqI, ↓q_neI, ↓q_eqB, ↓q_neB, ↓q_lt, ↓q_le, ↓q_gt, ↓q_ge, ↓q_isN, ↓q_isB, ↓q_isnB, ↓isB_b, ↓q_isnN, ↓q_inB, ↓q_notinB, ↓f_lenT, ↓f_lenL, ↓f_int, ↓f_abs, ↓f_max2, ↓f_min2, ↓f_tupleL, ↓f_tupleT, ↓f_listL, ↓f_listT, ↓f_divmod, ↓f_all, ↓f_any, ↓f_sum, ↓a_0, ↓a_1, ↓a_2, ↓t_v, ↓go_cons, ↓go_nil, ↓go_bind, ↓go_pure, ↓go_lookM, ↓go_lookTM, ↓go_truB, ↓go_noneM, ↓go_moveM, ↓go_ite, ↓go_fin, startE, tyB, isNone, Tgs.len, Exs.len, List.map_cons, List.map_nil, List.length_cons, List.length_nil, List.cons_append, List.nil_append, List.take_length, if_true, Bool.not_false, Bool.not_true, List.set_cons_zero, List.set_cons_succ, Nat.reduceAdd, Nat.reduceSub, List.reduceReplicate, Bool.false_eq_true, if_false, reduceIte, and_self, Bool.true_eq_false, decide_true, decide_false]
    obtain rfl : v = 0 := by omega
    rw [gcd_zero hu] at hg
    rw [hg]; exact hq
def winG (l : List Int) : List (Int × Int) := l.flatMap fun l => (days 1 11).map fun d => (l + 1 - d, l + 1)
theorem s39 (hn : 1 ≤ n) {p q : Pl} (hp : Pok p) (hq' : Pok q) (hq : Q (.d (.list ((win (per (p ++ q))).map pD))) st) : Go (callN pr n 39 [.d (plD p), .d (plD q)]) st Q := by
  obtain ⟨m, rfl⟩ : ∃ m, n = m + 1 := ⟨n - 1, by omega⟩
  rw [go_call (fi := f39) rfl rfl]
  obtain ⟨hP, _⟩ := per_ok (steps2 hp hq')
  have h1 := hP.le
  have h2 := hP.pos
  have hl : (p.map pD).length + (q.map pD).length ≤ sizeLine := big _ (by
    have := hp.len
    have := hq'.len
    rw [List.length_map, List.length_map]; omega)
  unfold f39 plD
  refine go_next (ρ1 := [some (.d (plD p)), some (.d (plD q)), some (.d (.int 1)), none, none, none, none, none, none, none]) ?_ ?_
  · simp (maxSteps := 2000000) (disch := first | omega | assumption | (simp only [List.length_map, List.length_append, List.length_cons, List.length_nil, List.length_take, List.length_drop, List.length_reverse, List.length_replicate]; omega)) only [plD, ↓w_nil, ↓w_cons, ↓g_comp, ↓g_comp2, ↓s_for, ↓s_while, ↓g_non, ↓g_bl, ↓g_int, ↓g_str, ↓g_v, ↓g_g, ↓g_get0, ↓g_gets, ↓g_neg, ↓g_bin, ↓g_cmp, ↓g_cmp2, ↓g_and, ↓g_or, ↓g_not, ↓g_ite, ↓g_call, ↓g_callK, ↓g_bi, ↓g_listC, ↓g_rgT, ↓g_rgL, ↓g_isi, ↓g_isiT, ↓g_tup, ↓g_lst, ↓g_ix, ↓g_sl, ↓g_rev, ↓g_app, ↓g_upper, ↓t_and, ↓t_or, ↓t_not, ↓t_ite, ↓t_bl, ↓t_cmp, ↓t_cmp2, ↓t_call, ↓t_callK, ↓t_bi, ↓t_isi, ↓t_isiT, ↓t_ix, ↓l_nil, ↓l_cons, ↓lt_nil, ↓lt_cons, ↓looks_nil, ↓looks_cons, ↓moves_nil, ↓moves_cons, ↓i_seq, ↓i_rng1, ↓i_rng2, ↓i_enum, ↓i_zip, ↓it_list, ↓it_tuple, ↓it_s, ↓gg_n, ↓gg_t, ↓gg_ix, ↓gs_nil, ↓gs_cons, ↓g_tupS, ↓g_lstS, ↓g_lstCS, ↓g_mkL, ↓g_mkC, ↓g_ixT, ↓g_ixL, ↓g_negK, ↓g_asCell, ↓p_nil, ↓p_one, ↓s_pass, ↓s_brk, ↓s_cont, ↓s_never, ↓s_expr, ↓s_ret, ↓s_retN, ↓s_asg, ↓s_par, ↓s_par3, ↓g_rgV, ↓g_rgVK, ↓g_revL, ↓g_revT, ↓s_aug, ↓s_iff, ↓b_add, ↓b_sub, ↓b_mulr, ↓b_mull, ↓b_fdiv, ↓b_mod, ↓b_addLS, ↓b_addTS, ↓q_eqI, ↓q_neI, ↓q_eqB, ↓q_neB, ↓q_lt, ↓q_le, ↓q_gt, ↓q_ge, ↓q_isN, ↓q_isB, ↓q_isnB, ↓isB_b, ↓q_isnN, ↓q_inB, ↓q_notinB, ↓f_lenT, ↓f_lenL, ↓f_int, ↓f_abs, ↓f_max2, ↓f_min2, ↓f_tupleL, ↓f_tupleT, ↓f_listL, ↓f_listT, ↓f_divmod, ↓f_all, ↓f_any, ↓f_sum, ↓a_0, ↓a_1, ↓a_2, ↓t_v, ↓go_cons, ↓go_nil, ↓go_bind, ↓go_pure, ↓go_lookM, ↓go_lookTM, ↓go_truB, ↓go_noneM, ↓go_moveM, ↓go_ite, ↓go_fin, startE, tyB, isNone, Tgs.len, Exs.len, List.map_cons, List.map_nil, List.length_cons, List.length_nil, List.cons_append, List.nil_append, List.take_length, if_true, Bool.not_false, Bool.not_true, List.set_cons_zero, List.set_cons_succ, Nat.reduceAdd, Nat.reduceSub, List.reduceReplicate, Bool.false_eq_true, if_false, reduceIte, and_self, Bool.true_eq_false, decide_true, decide_false]
  refine go_seq (fun ρ s => ∃ (x3 x4 x5 x6 : Option Val), ρ = [some (.d (plD p)), some (.d (plD q)), some (.d (.int (per (p ++ q)))), x3, x4, x5, x6, none, none, none] ∧ st = s) ?_ ?_
  · unfold plD
    simp (maxSteps := 2000000) (disch := first | omega | assumption | (simp only [List.length_map, List.length_append, List.length_cons, List.length_nil, List.length_take, List.length_drop, List.length_reverse, List.length_replicate]; omega)) only [b_addT hl, ← List.map_append, ↓w_nil, ↓w_cons, ↓g_comp, ↓g_comp2, ↓s_for, ↓s_while, ↓g_non, ↓g_bl, ↓g_int, ↓g_str, ↓g_v, ↓g_g, ↓g_get0, ↓g_gets, ↓g_neg, ↓g_bin, ↓g_cmp, ↓g_cmp2, ↓g_and, ↓g_or, ↓g_not, ↓g_ite, ↓g_call, ↓g_callK, ↓g_bi, ↓g_listC, ↓g_rgT, ↓g_rgL, ↓g_isi, ↓g_isiT, ↓g_tup, ↓g_lst, ↓g_ix, ↓g_sl, ↓g_rev, ↓g_app, ↓g_upper, ↓t_and, ↓t_or, ↓t_not, ↓t_ite, ↓t_bl, ↓t_cmp, ↓t_cmp2, ↓t_call, ↓t_callK, ↓t_bi, ↓t_isi, ↓t_isiT, ↓t_ix, ↓l_nil, ↓l_cons, ↓lt_nil, ↓lt_cons, ↓looks_nil, ↓looks_cons, ↓moves_nil, ↓moves_cons, ↓i_seq, ↓i_rng1, ↓i_rng2, ↓i_enum, ↓i_zip, ↓it_list, ↓it_tuple, ↓it_s, ↓gg_n, ↓gg_t, ↓gg_ix, ↓gs_nil, ↓gs_cons, ↓g_tupS, ↓g_lstS, ↓g_lstCS, ↓g_mkL, ↓g_mkC, ↓g_ixT, ↓g_ixL, ↓g_negK, ↓g_asCell, ↓p_nil, ↓p_one, ↓s_pass, ↓s_brk, ↓s_cont, ↓s_never, ↓s_expr, ↓s_ret, ↓s_retN, ↓s_asg, ↓s_par, ↓s_par3, ↓g_rgV, ↓g_rgVK, ↓g_revL, ↓g_revT, ↓s_aug, ↓s_iff, ↓b_add, ↓b_sub, ↓b_mulr, ↓b_mull, ↓b_fdiv, ↓b_mod, ↓b_addLS, ↓b_addTS, ↓q_eqI, ↓q_neI, ↓q_eqB, ↓q_neB, ↓q_lt, ↓q_le, ↓q_gt, ↓q_ge, ↓q_isN, ↓q_isB, ↓q_isnB, ↓isB_b, ↓q_isnN, ↓q_inB, ↓q_notinB, ↓f_lenT, ↓f_lenL, ↓f_int, ↓f_abs, ↓f_max2, ↓f_min2, ↓f_tupleL, ↓f_tupleT, ↓f_listL, ↓f_listT, ↓f_divmod, ↓f_all, ↓f_any, ↓f_sum, ↓a_0, ↓a_1, ↓a_2, ↓t_v, ↓go_cons, ↓go_nil, ↓go_bind, ↓go_pure, ↓go_lookM, ↓go_lookTM, ↓go_truB, ↓go_noneM, ↓go_moveM, ↓go_ite, ↓go_fin, startE, tyB, isNone, Tgs.len, Exs.len, List.map_cons, List.map_nil, List.length_cons, List.length_nil, List.cons_append, List.nil_append, List.take_length, if_true, Bool.not_false, Bool.not_true, List.set_cons_zero, List.set_cons_succ, Nat.reduceAdd, Nat.reduceSub, List.reduceReplicate, Bool.false_eq_true, if_false, reduceIte, and_self, Bool.true_eq_false, decide_true, decide_false]
    refine go_forL (fun xs ρ s => ∃ (l' : Pl) (P' : Int) (x3 x4 x5 x6 : Option Val), xs = l'.map pD ∧ PerOk P' ∧ l'.foldl perS P' = per (p ++ q) ∧ (∀ p ∈ l', 1 ≤ p.1 ∧ p.1 ≤ 10) ∧ ρ = [some (.d (.tuple (p.map pD))), some (.d (.tuple (q.map pD))), some (.d (.int P')), x3, x4, x5, x6, none, none, none] ∧ s = st) ?_ ?_ _ _ _ ⟨p ++ q, 1, none, none, none, none, rfl, ⟨by decide, by decide⟩, rfl, steps2 hp hq', rfl, rfl⟩
    · rintro x0 r ρ s ⟨l', P', x3, x4, x5, x6, hx, hP', he, hl', rfl, rfl⟩
      cases l' with
      | nil => cases hx
      | cons p0 l' =>
        rw [List.map_cons] at hx
        injection hx with e1 e2
        subst e1 e2
        obtain ⟨b1, b2⟩ := hl' p0 List.mem_cons_self
        have hp0 := hP'.pos
        simp (maxSteps := 2000000) (disch := first | omega | assumption | (simp only [List.length_map, List.length_append, List.length_cons, List.length_nil, List.length_take, List.length_drop, List.length_reverse, List.length_replicate]; omega)) only [pD, ↓w_nil, ↓w_cons, ↓g_comp, ↓g_comp2, ↓s_for, ↓s_while, ↓g_non, ↓g_bl, ↓g_int, ↓g_str, ↓g_v, ↓g_g, ↓g_get0, ↓g_gets, ↓g_neg, ↓g_bin, ↓g_cmp, ↓g_cmp2, ↓g_and, ↓g_or, ↓g_not, ↓g_ite, ↓g_call, ↓g_callK, ↓g_bi, ↓g_listC, ↓g_rgT, ↓g_rgL, ↓g_isi, ↓g_isiT, ↓g_tup, ↓g_lst, ↓g_ix, ↓g_sl, ↓g_rev, ↓g_app, ↓g_upper, ↓t_and, ↓t_or, ↓t_not, ↓t_ite, ↓t_bl, ↓t_cmp, ↓t_cmp2, ↓t_call, ↓t_callK, ↓t_bi, ↓t_isi, ↓t_isiT, ↓t_ix, ↓l_nil, ↓l_cons, ↓lt_nil, ↓lt_cons, ↓looks_nil, ↓looks_cons, ↓moves_nil, ↓moves_cons, ↓i_seq, ↓i_rng1, ↓i_rng2, ↓i_enum, ↓i_zip, ↓it_list, ↓it_tuple, ↓it_s, ↓gg_n, ↓gg_t, ↓gg_ix, ↓gs_nil, ↓gs_cons, ↓g_tupS, ↓g_lstS, ↓g_lstCS, ↓g_mkL, ↓g_mkC, ↓g_ixT, ↓g_ixL, ↓g_negK, ↓g_asCell, ↓p_nil, ↓p_one, ↓s_pass, ↓s_brk, ↓s_cont, ↓s_never, ↓s_expr, ↓s_ret, ↓s_retN, ↓s_asg, ↓s_par, ↓s_par3, ↓g_rgV, ↓g_rgVK, ↓g_revL, ↓g_revT, ↓s_aug, ↓s_iff, ↓b_add, ↓b_sub, ↓b_mulr, ↓b_mull, ↓b_fdiv, ↓b_mod, ↓b_addLS, ↓b_addTS, ↓q_eqI, ↓q_neI, ↓q_eqB, ↓q_neB, ↓q_lt, ↓q_le, ↓q_gt, ↓q_ge, ↓q_isN, ↓q_isB, ↓q_isnB, ↓isB_b, ↓q_isnN, ↓q_inB, ↓q_notinB, ↓f_lenT, ↓f_lenL, ↓f_int, ↓f_abs, ↓f_max2, ↓f_min2, ↓f_tupleL, ↓f_tupleT, ↓f_listL, ↓f_listT, ↓f_divmod, ↓f_all, ↓f_any, ↓f_sum, ↓a_0, ↓a_1, ↓a_2, ↓t_v, ↓go_cons, ↓go_nil, ↓go_bind, ↓go_pure, ↓go_lookM, ↓go_lookTM, ↓go_truB, ↓go_noneM, ↓go_moveM, ↓go_ite, ↓go_fin, startE, tyB, isNone, Tgs.len, Exs.len, List.map_cons, List.map_nil, List.length_cons, List.length_nil, List.cons_append, List.nil_append, List.take_length, if_true, Bool.not_false, Bool.not_true, List.set_cons_zero, List.set_cons_succ, Nat.reduceAdd, Nat.reduceSub, List.reduceReplicate, Bool.false_eq_true, if_false, reduceIte, and_self, Bool.true_eq_false, decide_true, decide_false]
        refine gcdloop (by omega) (by omega) (by omega) ?_
        have g := gcd_bd hp0 b1
        simp (maxSteps := 2000000) (disch := first | omega | assumption | (simp only [List.length_map, List.length_append, List.length_cons, List.length_nil, List.length_take, List.length_drop, List.length_reverse, List.length_replicate]; omega)) only [↓w_nil, ↓w_cons, ↓g_comp, ↓g_comp2, ↓s_for, ↓s_while, ↓g_non, ↓g_bl, ↓g_int, ↓g_str, ↓g_v, ↓g_g, ↓g_get0, ↓g_gets, ↓g_neg, ↓g_bin, ↓g_cmp, ↓g_cmp2, ↓g_and, ↓g_or, ↓g_not, ↓g_ite, ↓g_call, ↓g_callK, ↓g_bi, ↓g_listC, ↓g_rgT, ↓g_rgL, ↓g_isi, ↓g_isiT, ↓g_tup, ↓g_lst, ↓g_ix, ↓g_sl, ↓g_rev, ↓g_app, ↓g_upper, ↓t_and, ↓t_or, ↓t_not, ↓t_ite, ↓t_bl, ↓t_cmp, ↓t_cmp2, ↓t_call, ↓t_callK, ↓t_bi, ↓t_isi, ↓t_isiT, ↓t_ix, ↓l_nil, ↓l_cons, ↓lt_nil, ↓lt_cons, ↓looks_nil, ↓looks_cons, ↓moves_nil, ↓moves_cons, ↓i_seq, ↓i_rng1, ↓i_rng2, ↓i_enum, ↓i_zip, ↓it_list, ↓it_tuple, ↓it_s, ↓gg_n, ↓gg_t, ↓gg_ix, ↓gs_nil, ↓gs_cons, ↓g_tupS, ↓g_lstS, ↓g_lstCS, ↓g_mkL, ↓g_mkC, ↓g_ixT, ↓g_ixL, ↓g_negK, ↓g_asCell, ↓p_nil, ↓p_one, ↓s_pass, ↓s_brk, ↓s_cont, ↓s_never, ↓s_expr, ↓s_ret, ↓s_retN, ↓s_asg, ↓s_par, ↓s_par3, ↓g_rgV, ↓g_rgVK, ↓g_revL, ↓g_revT, ↓s_aug, ↓s_iff, ↓b_add, ↓b_sub, ↓b_mulr, ↓b_mull, ↓b_fdiv, ↓b_mod, ↓b_addLS, ↓b_addTS, ↓q_eqI, ↓q_neI, ↓q_eqB, ↓q_neB, ↓q_lt, ↓q_le, ↓q_gt, ↓q_ge, ↓q_isN, ↓q_isB, ↓q_isnB, ↓isB_b, ↓q_isnN, ↓q_inB, ↓q_notinB, ↓f_lenT, ↓f_lenL, ↓f_int, ↓f_abs, ↓f_max2, ↓f_min2, ↓f_tupleL, ↓f_tupleT, ↓f_listL, ↓f_listT, ↓f_divmod, ↓f_all, ↓f_any, ↓f_sum, ↓a_0, ↓a_1, ↓a_2, ↓t_v, ↓go_cons, ↓go_nil, ↓go_bind, ↓go_pure, ↓go_lookM, ↓go_lookTM, ↓go_truB, ↓go_noneM, ↓go_moveM, ↓go_ite, ↓go_fin, startE, tyB, isNone, Tgs.len, Exs.len, List.map_cons, List.map_nil, List.length_cons, List.length_nil, List.cons_append, List.nil_append, List.take_length, if_true, Bool.not_false, Bool.not_true, List.set_cons_zero, List.set_cons_succ, Nat.reduceAdd, Nat.reduceSub, List.reduceReplicate, Bool.false_eq_true, if_false, reduceIte, and_self, Bool.true_eq_false, decide_true, decide_false]
        exact ⟨l', perS P' p0, _, _, _, _, rfl, (perS_ok hP' b1 b2).1, he, fun q hq => hl' q (List.mem_cons_of_mem _ hq), rfl, by first | rfl | trivial⟩
    · rintro ρ s ⟨l', P', x3, x4, x5, x6, hx, hP', he, hl', rfl, rfl⟩
      cases l' with
      | cons p l' => cases hx
      | nil =>
        have he : P' = per (p ++ q) := he
        exact ⟨_, rfl, x3, x4, x5, x6, by rw [he], rfl⟩
  · rintro ρ s ⟨x3, x4, x5, x6, rfl, rfl⟩
    have hr : rgOk 10 (10 + per (p ++ q)) := rgOk_by (by omega) (by omega) (by omega) (by omega) (by omega)
    simp (maxSteps := 2000000) (disch := first | omega | assumption | (simp only [List.length_map, List.length_append, List.length_cons, List.length_nil, List.length_take, List.length_drop, List.length_reverse, List.length_replicate]; omega)) only [g_lstK (xs := []) (big 0 (by decide)), rng2_ok hr, rg_days, ↓w_nil, ↓w_cons, ↓g_comp, ↓g_comp2, ↓s_for, ↓s_while, ↓g_non, ↓g_bl, ↓g_int, ↓g_str, ↓g_v, ↓g_g, ↓g_get0, ↓g_gets, ↓g_neg, ↓g_bin, ↓g_cmp, ↓g_cmp2, ↓g_and, ↓g_or, ↓g_not, ↓g_ite, ↓g_call, ↓g_callK, ↓g_bi, ↓g_listC, ↓g_rgT, ↓g_rgL, ↓g_isi, ↓g_isiT, ↓g_tup, ↓g_lst, ↓g_ix, ↓g_sl, ↓g_rev, ↓g_app, ↓g_upper, ↓t_and, ↓t_or, ↓t_not, ↓t_ite, ↓t_bl, ↓t_cmp, ↓t_cmp2, ↓t_call, ↓t_callK, ↓t_bi, ↓t_isi, ↓t_isiT, ↓t_ix, ↓l_nil, ↓l_cons, ↓lt_nil, ↓lt_cons, ↓looks_nil, ↓looks_cons, ↓moves_nil, ↓moves_cons, ↓i_seq, ↓i_rng1, ↓i_rng2, ↓i_enum, ↓i_zip, ↓it_list, ↓it_tuple, ↓it_s, ↓gg_n, ↓gg_t, ↓gg_ix, ↓gs_nil, ↓gs_cons, ↓g_tupS, ↓g_lstS, ↓g_lstCS, ↓g_mkL, ↓g_mkC, ↓g_ixT, ↓g_ixL, ↓g_negK, ↓g_asCell, ↓p_nil, ↓p_one, ↓s_pass, ↓s_brk, ↓s_cont, ↓s_never, ↓s_expr, ↓s_ret, ↓s_retN, ↓s_asg, ↓s_par, ↓s_par3, ↓g_rgV, ↓g_rgVK, ↓g_revL, ↓g_revT, ↓s_aug, ↓s_iff, ↓b_add, ↓b_sub, ↓b_mulr, ↓b_mull, ↓b_fdiv, ↓b_mod, ↓b_addLS, ↓b_addTS, ↓q_eqI, ↓q_neI, ↓q_eqB, ↓q_neB, ↓q_lt, ↓q_le, ↓q_gt, ↓q_ge, ↓q_isN, ↓q_isB, ↓q_isnB, ↓isB_b, ↓q_isnN, ↓q_inB, ↓q_notinB, ↓f_lenT, ↓f_lenL, ↓f_int, ↓f_abs, ↓f_max2, ↓f_min2, ↓f_tupleL, ↓f_tupleT, ↓f_listL, ↓f_listT, ↓f_divmod, ↓f_all, ↓f_any, ↓f_sum, ↓a_0, ↓a_1, ↓a_2, ↓t_v, ↓go_cons, ↓go_nil, ↓go_bind, ↓go_pure, ↓go_lookM, ↓go_lookTM, ↓go_truB, ↓go_noneM, ↓go_moveM, ↓go_ite, ↓go_fin, startE, tyB, isNone, Tgs.len, Exs.len, List.map_cons, List.map_nil, List.length_cons, List.length_nil, List.cons_append, List.nil_append, List.take_length, if_true, Bool.not_false, Bool.not_true, List.set_cons_zero, List.set_cons_succ, Nat.reduceAdd, Nat.reduceSub, List.reduceReplicate, Bool.false_eq_true, if_false, reduceIte, and_self, Bool.true_eq_false, decide_true, decide_false]
    refine go_forL (fun xs ρ s => ∃ (l l0 : List Int) (x8 x9 : Option Val), xs = l.map .int ∧ l0 ++ l = days 10 (10 + per (p ++ q)) ∧ ρ = [some (.d (plD p)), some (.d (plD q)), some (.d (.int (per (p ++ q)))), x3, x4, x5, x6, some (.d (.list ((winG l0).map pD))), x8, x9] ∧ s = st) ?_ ?_ _ _ _ ⟨days 10 (10 + per (p ++ q)), [], none, none, rfl, rfl, rfl, rfl⟩
    · rintro x r ρ s ⟨l, l0, x8, x9, hx, hl, rfl, rfl⟩
      cases l with
      | nil => cases hx
      | cons d l =>
        rw [List.map_cons] at hx
        injection hx with e1 e2
        subst e1 e2
        simp (maxSteps := 2000000) (disch := first | omega | assumption | (simp only [List.length_map, List.length_append, List.length_cons, List.length_nil, List.length_take, List.length_drop, List.length_reverse, List.length_replicate]; omega)) only [rng2_ok (i := 1) (j := 11) (by decide), rg_days, ↓w_nil, ↓w_cons, ↓g_comp, ↓g_comp2, ↓s_for, ↓s_while, ↓g_non, ↓g_bl, ↓g_int, ↓g_str, ↓g_v, ↓g_g, ↓g_get0, ↓g_gets, ↓g_neg, ↓g_bin, ↓g_cmp, ↓g_cmp2, ↓g_and, ↓g_or, ↓g_not, ↓g_ite, ↓g_call, ↓g_callK, ↓g_bi, ↓g_listC, ↓g_rgT, ↓g_rgL, ↓g_isi, ↓g_isiT, ↓g_tup, ↓g_lst, ↓g_ix, ↓g_sl, ↓g_rev, ↓g_app, ↓g_upper, ↓t_and, ↓t_or, ↓t_not, ↓t_ite, ↓t_bl, ↓t_cmp, ↓t_cmp2, ↓t_call, ↓t_callK, ↓t_bi, ↓t_isi, ↓t_isiT, ↓t_ix, ↓l_nil, ↓l_cons, ↓lt_nil, ↓lt_cons, ↓looks_nil, ↓looks_cons, ↓moves_nil, ↓moves_cons, ↓i_seq, ↓i_rng1, ↓i_rng2, ↓i_enum, ↓i_zip, ↓it_list, ↓it_tuple, ↓it_s, ↓gg_n, ↓gg_t, ↓gg_ix, ↓gs_nil, ↓gs_cons, ↓g_tupS, ↓g_lstS, ↓g_lstCS, ↓g_mkL, ↓g_mkC, ↓g_ixT, ↓g_ixL, ↓g_negK, ↓g_asCell, ↓p_nil, ↓p_one, ↓s_pass, ↓s_brk, ↓s_cont, ↓s_never, ↓s_expr, ↓s_ret, ↓s_retN, ↓s_asg, ↓s_par, ↓s_par3, ↓g_rgV, ↓g_rgVK, ↓g_revL, ↓g_revT, ↓s_aug, ↓s_iff, ↓b_add, ↓b_sub, ↓b_mulr, ↓b_mull, ↓b_fdiv, ↓b_mod, ↓b_addLS, ↓b_addTS, ↓q_eqI, ↓q_neI, ↓q_eqB, ↓q_neB, ↓q_lt, ↓q_le, ↓q_gt, ↓q_ge, ↓q_isN, ↓q_isB, ↓q_isnB, ↓isB_b, ↓q_isnN, ↓q_inB, ↓q_notinB, ↓f_lenT, ↓f_lenL, ↓f_int, ↓f_abs, ↓f_max2, ↓f_min2, ↓f_tupleL, ↓f_tupleT, ↓f_listL, ↓f_listT, ↓f_divmod, ↓f_all, ↓f_any, ↓f_sum, ↓a_0, ↓a_1, ↓a_2, ↓t_v, ↓go_cons, ↓go_nil, ↓go_bind, ↓go_pure, ↓go_lookM, ↓go_lookTM, ↓go_truB, ↓go_noneM, ↓go_moveM, ↓go_ite, ↓go_fin, startE, tyB, isNone, Tgs.len, Exs.len, List.map_cons, List.map_nil, List.length_cons, List.length_nil, List.cons_append, List.nil_append, List.take_length, if_true, Bool.not_false, Bool.not_true, List.set_cons_zero, List.set_cons_succ, Nat.reduceAdd, Nat.reduceSub, List.reduceReplicate, Bool.false_eq_true, if_false, reduceIte, and_self, Bool.true_eq_false, decide_true, decide_false]
        rw [go_of (compL_map (g := fun e => [pD (d + 1 - e, d + 1)]) (fun e he => ?_))]
        · rw [flatMap_one]
          have hlen : ((winG l0).map pD).length + ((days 1 11).map fun e => pD (d + 1 - e, d + 1)).length ≤ sizeLine := big _ (by
            rw [List.length_map, List.length_map, days_len]
            have e : ∀ l : List Int, (winG l).length = l.length * 10 := by
              intro l
              unfold winG
              induction l with
              | nil => rfl
              | cons a l ih =>
                rw [List.flatMap_cons, List.length_append, ih, List.length_map, days_len, List.length_cons]
                show 10 + _ = _
                omega
            rw [e]
            have := congrArg List.length hl
            rw [List.length_append, days_len] at this
            omega)
          simp (maxSteps := 2000000) (disch := first | omega | assumption | (simp only [List.length_map, List.length_append, List.length_cons, List.length_nil, List.length_take, List.length_drop, List.length_reverse, List.length_replicate]; omega)) only [b_addL hlen, ↓w_nil, ↓w_cons, ↓g_comp, ↓g_comp2, ↓s_for, ↓s_while, ↓g_non, ↓g_bl, ↓g_int, ↓g_str, ↓g_v, ↓g_g, ↓g_get0, ↓g_gets, ↓g_neg, ↓g_bin, ↓g_cmp, ↓g_cmp2, ↓g_and, ↓g_or, ↓g_not, ↓g_ite, ↓g_call, ↓g_callK, ↓g_bi, ↓g_listC, ↓g_rgT, ↓g_rgL, ↓g_isi, ↓g_isiT, ↓g_tup, ↓g_lst, ↓g_ix, ↓g_sl, ↓g_rev, ↓g_app, ↓g_upper, ↓t_and, ↓t_or, ↓t_not, ↓t_ite, ↓t_bl, ↓t_cmp, ↓t_cmp2, ↓t_call, ↓t_callK, ↓t_bi, ↓t_isi, ↓t_isiT, ↓t_ix, ↓l_nil, ↓l_cons, ↓lt_nil, ↓lt_cons, ↓looks_nil, ↓looks_cons, ↓moves_nil, ↓moves_cons, ↓i_seq, ↓i_rng1, ↓i_rng2, ↓i_enum, ↓i_zip, ↓it_list, ↓it_tuple, ↓it_s, ↓gg_n, ↓gg_t, ↓gg_ix, ↓gs_nil, ↓gs_cons, ↓g_tupS, ↓g_lstS, ↓g_lstCS, ↓g_mkL, ↓g_mkC, ↓g_ixT, ↓g_ixL, ↓g_negK, ↓g_asCell, ↓p_nil, ↓p_one, ↓s_pass, ↓s_brk, ↓s_cont, ↓s_never, ↓s_expr, ↓s_ret, ↓s_retN, ↓s_asg, ↓s_par, ↓s_par3, ↓g_rgV, ↓g_rgVK, ↓g_revL, ↓g_revT, ↓s_aug, ↓s_iff, ↓b_add, ↓b_sub, ↓b_mulr, ↓b_mull, ↓b_fdiv, ↓b_mod, ↓b_addLS, ↓b_addTS, ↓q_eqI, ↓q_neI, ↓q_eqB, ↓q_neB, ↓q_lt, ↓q_le, ↓q_gt, ↓q_ge, ↓q_isN, ↓q_isB, ↓q_isnB, ↓isB_b, ↓q_isnN, ↓q_inB, ↓q_notinB, ↓f_lenT, ↓f_lenL, ↓f_int, ↓f_abs, ↓f_max2, ↓f_min2, ↓f_tupleL, ↓f_tupleT, ↓f_listL, ↓f_listT, ↓f_divmod, ↓f_all, ↓f_any, ↓f_sum, ↓a_0, ↓a_1, ↓a_2, ↓t_v, ↓go_cons, ↓go_nil, ↓go_bind, ↓go_pure, ↓go_lookM, ↓go_lookTM, ↓go_truB, ↓go_noneM, ↓go_moveM, ↓go_ite, ↓go_fin, startE, tyB, isNone, Tgs.len, Exs.len, List.map_cons, List.map_nil, List.length_cons, List.length_nil, List.cons_append, List.nil_append, List.take_length, if_true, Bool.not_false, Bool.not_true, List.set_cons_zero, List.set_cons_succ, Nat.reduceAdd, Nat.reduceSub, List.reduceReplicate, Bool.false_eq_true, if_false, reduceIte, and_self, Bool.true_eq_false, decide_true, decide_false]
          have e : List.map pD (winG l0) ++ List.map (fun e => pD (d + 1 - e, d + 1)) (days 1 11) = List.map pD (winG (l0 ++ [d])) := by
            unfold winG
            rw [List.flatMap_append, List.map_append]
            congr 1
            all_goals (rw [List.flatMap_cons, List.flatMap_nil, List.append_nil, List.map_map]; all_goals rfl)
          rw [e]
          exact ⟨l, l0 ++ [d], _, _, rfl, by rw [List.append_assoc]; exact hl, rfl, by first | rfl | trivial⟩
        · apply ok_of
          simp (maxSteps := 2000000) (disch := first | omega | assumption | (simp only [List.length_map, List.length_append, List.length_cons, List.length_nil, List.length_take, List.length_drop, List.length_reverse, List.length_replicate]; omega)) only [↓g_compF, wipeE, g_tupK (xs := [_, _]) (big 2 (by decide)), ↓w_nil, ↓w_cons, ↓g_comp, ↓g_comp2, ↓s_for, ↓s_while, ↓g_non, ↓g_bl, ↓g_int, ↓g_str, ↓g_v, ↓g_g, ↓g_get0, ↓g_gets, ↓g_neg, ↓g_bin, ↓g_cmp, ↓g_cmp2, ↓g_and, ↓g_or, ↓g_not, ↓g_ite, ↓g_call, ↓g_callK, ↓g_bi, ↓g_listC, ↓g_rgT, ↓g_rgL, ↓g_isi, ↓g_isiT, ↓g_tup, ↓g_lst, ↓g_ix, ↓g_sl, ↓g_rev, ↓g_app, ↓g_upper, ↓t_and, ↓t_or, ↓t_not, ↓t_ite, ↓t_bl, ↓t_cmp, ↓t_cmp2, ↓t_call, ↓t_callK, ↓t_bi, ↓t_isi, ↓t_isiT, ↓t_ix, ↓l_nil, ↓l_cons, ↓lt_nil, ↓lt_cons, ↓looks_nil, ↓looks_cons, ↓moves_nil, ↓moves_cons, ↓i_seq, ↓i_rng1, ↓i_rng2, ↓i_enum, ↓i_zip, ↓it_list, ↓it_tuple, ↓it_s, ↓gg_n, ↓gg_t, ↓gg_ix, ↓gs_nil, ↓gs_cons, ↓g_tupS, ↓g_lstS, ↓g_lstCS, ↓g_mkL, ↓g_mkC, ↓g_ixT, ↓g_ixL, ↓g_negK, ↓g_asCell, ↓p_nil, ↓p_one, ↓s_pass, ↓s_brk, ↓s_cont, ↓s_never, ↓s_expr, ↓s_ret, ↓s_retN, ↓s_asg, ↓s_par, ↓s_par3, ↓g_rgV, ↓g_rgVK, ↓g_revL, ↓g_revT, ↓s_aug, ↓s_iff, ↓b_add, ↓b_sub, ↓b_mulr, ↓b_mull, ↓b_fdiv, ↓b_mod, ↓b_addLS, ↓b_addTS, ↓q_eqI, ↓q_neI, ↓q_eqB, ↓q_neB, ↓q_lt, ↓q_le, ↓q_gt, ↓q_ge, ↓q_isN, ↓q_isB, ↓q_isnB, ↓isB_b, ↓q_isnN, ↓q_inB, ↓q_notinB, ↓f_lenT, ↓f_lenL, ↓f_int, ↓f_abs, ↓f_max2, ↓f_min2, ↓f_tupleL, ↓f_tupleT, ↓f_listL, ↓f_listT, ↓f_divmod, ↓f_all, ↓f_any, ↓f_sum, ↓a_0, ↓a_1, ↓a_2, ↓t_v, ↓go_cons, ↓go_nil, ↓go_bind, ↓go_pure, ↓go_lookM, ↓go_lookTM, ↓go_truB, ↓go_noneM, ↓go_moveM, ↓go_ite, ↓go_fin, startE, tyB, isNone, Tgs.len, Exs.len, List.map_cons, List.map_nil, List.length_cons, List.length_nil, List.cons_append, List.nil_append, List.take_length, if_true, Bool.not_false, Bool.not_true, List.set_cons_zero, List.set_cons_succ, Nat.reduceAdd, Nat.reduceSub, List.reduceReplicate, Bool.false_eq_true, if_false, reduceIte, and_self, Bool.true_eq_false, decide_true, decide_false]
          all_goals first | exact ⟨rfl, rfl⟩ | exact ⟨rfl, trivial⟩
    · rintro ρ s ⟨l, l0, x8, x9, hx, hl, rfl, rfl⟩
      cases l with
      | cons d l => cases hx
      | nil =>
        rw [List.append_nil] at hl
        simp (maxSteps := 2000000) (disch := first | omega | assumption | (simp only [List.length_map, List.length_append, List.length_cons, List.length_nil, List.length_take, List.length_drop, List.length_reverse, List.length_replicate]; omega)) only [↓w_nil, ↓w_cons, ↓g_comp, ↓g_comp2, ↓s_for, ↓s_while, ↓g_non, ↓g_bl, ↓g_int, ↓g_str, ↓g_v, ↓g_g, ↓g_get0, ↓g_gets, ↓g_neg, ↓g_bin, ↓g_cmp, ↓g_cmp2, ↓g_and, ↓g_or, ↓g_not, ↓g_ite, ↓g_call, ↓g_callK, ↓g_bi, ↓g_listC, ↓g_rgT, ↓g_rgL, ↓g_isi, ↓g_isiT, ↓g_tup, ↓g_lst, ↓g_ix, ↓g_sl, ↓g_rev, ↓g_app, ↓g_upper, ↓t_and, ↓t_or, ↓t_not, ↓t_ite, ↓t_bl, ↓t_cmp, ↓t_cmp2, ↓t_call, ↓t_callK, ↓t_bi, ↓t_isi, ↓t_isiT, ↓t_ix, ↓l_nil, ↓l_cons, ↓lt_nil, ↓lt_cons, ↓looks_nil, ↓looks_cons, ↓moves_nil, ↓moves_cons, ↓i_seq, ↓i_rng1, ↓i_rng2, ↓i_enum, ↓i_zip, ↓it_list, ↓it_tuple, ↓it_s, ↓gg_n, ↓gg_t, ↓gg_ix, ↓gs_nil, ↓gs_cons, ↓g_tupS, ↓g_lstS, ↓g_lstCS, ↓g_mkL, ↓g_mkC, ↓g_ixT, ↓g_ixL, ↓g_negK, ↓g_asCell, ↓p_nil, ↓p_one, ↓s_pass, ↓s_brk, ↓s_cont, ↓s_never, ↓s_expr, ↓s_ret, ↓s_retN, ↓s_asg, ↓s_par, ↓s_par3, ↓g_rgV, ↓g_rgVK, ↓g_revL, ↓g_revT, ↓s_aug, ↓s_iff, ↓b_add, ↓b_sub, ↓b_mulr, ↓b_mull, ↓b_fdiv, ↓b_mod, ↓b_addLS, ↓b_addTS, ↓q_eqI, ↓q_neI, ↓q_eqB, ↓q_neB, ↓q_lt, ↓q_le, ↓q_gt, ↓q_ge, ↓q_isN, ↓q_isB, ↓q_isnB, ↓isB_b, ↓q_isnN, ↓q_inB, ↓q_notinB, ↓f_lenT, ↓f_lenL, ↓f_int, ↓f_abs, ↓f_max2, ↓f_min2, ↓f_tupleL, ↓f_tupleT, ↓f_listL, ↓f_listT, ↓f_divmod, ↓f_all, ↓f_any, ↓f_sum, ↓a_0, ↓a_1, ↓a_2, ↓t_v, ↓go_cons, ↓go_nil, ↓go_bind, ↓go_pure, ↓go_lookM, ↓go_lookTM, ↓go_truB, ↓go_noneM, ↓go_moveM, ↓go_ite, ↓go_fin, startE, tyB, isNone, Tgs.len, Exs.len, List.map_cons, List.map_nil, List.length_cons, List.length_nil, List.cons_append, List.nil_append, List.take_length, if_true, Bool.not_false, Bool.not_true, List.set_cons_zero, List.set_cons_succ, Nat.reduceAdd, Nat.reduceSub, List.reduceReplicate, Bool.false_eq_true, if_false, reduceIte, and_self, Bool.true_eq_false, decide_true, decide_false]
        rw [hl]
        exact hq
theorem s40 (hn : 3 ≤ n) {p q : Pl} (hp : Pok p) (hq' : Pok q) (hq : Q (.d (optD (lg p q))) st) : Go (callN pr n 40 [.d (plD p), .d (plD q)]) st Q := by
  obtain ⟨m, rfl⟩ : ∃ m, n = m + 1 := ⟨n - 1, by omega⟩
  rw [go_call (fi := f40) rfl rfl]
  simp (maxSteps := 2000000) (disch := first | omega | assumption | (simp only [List.length_map, List.length_append, List.length_cons, List.length_nil, List.length_take, List.length_drop, List.length_reverse, List.length_replicate]; omega)) only [f40, ↓w_nil, ↓w_cons, ↓g_comp, ↓g_comp2, ↓s_for, ↓s_while, ↓g_non, ↓g_bl, ↓g_int, ↓g_str, ↓g_v, ↓g_g, ↓g_get0, ↓g_gets, ↓g_neg, ↓g_bin, ↓g_cmp, ↓g_cmp2, ↓g_and, ↓g_or, ↓g_not, ↓g_ite, ↓g_call, ↓g_callK, ↓g_bi, ↓g_listC, ↓g_rgT, ↓g_rgL, ↓g_isi, ↓g_isiT, ↓g_tup, ↓g_lst, ↓g_ix, ↓g_sl, ↓g_rev, ↓g_app, ↓g_upper, ↓t_and, ↓t_or, ↓t_not, ↓t_ite, ↓t_bl, ↓t_cmp, ↓t_cmp2, ↓t_call, ↓t_callK, ↓t_bi, ↓t_isi, ↓t_isiT, ↓t_ix, ↓l_nil, ↓l_cons, ↓lt_nil, ↓lt_cons, ↓looks_nil, ↓looks_cons, ↓moves_nil, ↓moves_cons, ↓i_seq, ↓i_rng1, ↓i_rng2, ↓i_enum, ↓i_zip, ↓it_list, ↓it_tuple, ↓it_s, ↓gg_n, ↓gg_t, ↓gg_ix, ↓gs_nil, ↓gs_cons, ↓g_tupS, ↓g_lstS, ↓g_lstCS, ↓g_mkL, ↓g_mkC, ↓g_ixT, ↓g_ixL, ↓g_negK, ↓g_asCell, ↓p_nil, ↓p_one, ↓s_pass, ↓s_brk, ↓s_cont, ↓s_never, ↓s_expr, ↓s_ret, ↓s_retN, ↓s_asg, ↓s_par, ↓s_par3, ↓g_rgV, ↓g_rgVK, ↓g_revL, ↓g_revT, ↓s_aug, ↓s_iff, ↓b_add, ↓b_sub, ↓b_mulr, ↓b_mull, ↓b_fdiv, ↓b_mod, ↓b_addLS, ↓b_addTS, ↓q_eqI, ↓q_neI, ↓q_eqB, ↓q_neB, ↓q_lt, ↓q_le, ↓q_gt, ↓q_ge, ↓q_isN, ↓q_isB, ↓q_isnB, ↓isB_b, ↓q_isnN, ↓q_inB, ↓q_notinB, ↓f_lenT, ↓f_lenL, ↓f_int, ↓f_abs, ↓f_max2, ↓f_min2, ↓f_tupleL, ↓f_tupleT, ↓f_listL, ↓f_listT, ↓f_divmod, ↓f_all, ↓f_any, ↓f_sum, ↓a_0, ↓a_1, ↓a_2, ↓t_v, ↓go_cons, ↓go_nil, ↓go_bind, ↓go_pure, ↓go_lookM, ↓go_lookTM, ↓go_truB, ↓go_noneM, ↓go_moveM, ↓go_ite, ↓go_fin, startE, tyB, isNone, Tgs.len, Exs.len, List.map_cons, List.map_nil, List.length_cons, List.length_nil, List.cons_append, List.nil_append, List.take_length, if_true, Bool.not_false, Bool.not_true, List.set_cons_zero, List.set_cons_succ, Nat.reduceAdd, Nat.reduceSub, List.reduceReplicate, Bool.false_eq_true, if_false, reduceIte, and_self, Bool.true_eq_false, decide_true, decide_false]
  refine s39 (by omega) hp hq' ?_
  simp (maxSteps := 2000000) (disch := first | omega | assumption | (simp only [List.length_map, List.length_append, List.length_cons, List.length_nil, List.length_take, List.length_drop, List.length_reverse, List.length_replicate]; omega)) only [↓w_nil, ↓w_cons, ↓g_comp, ↓g_comp2, ↓s_for, ↓s_while, ↓g_non, ↓g_bl, ↓g_int, ↓g_str, ↓g_v, ↓g_g, ↓g_get0, ↓g_gets, ↓g_neg, ↓g_bin, ↓g_cmp, ↓g_cmp2, ↓g_and, ↓g_or, ↓g_not, ↓g_ite, ↓g_call, ↓g_callK, ↓g_bi, ↓g_listC, ↓g_rgT, ↓g_rgL, ↓g_isi, ↓g_isiT, ↓g_tup, ↓g_lst, ↓g_ix, ↓g_sl, ↓g_rev, ↓g_app, ↓g_upper, ↓t_and, ↓t_or, ↓t_not, ↓t_ite, ↓t_bl, ↓t_cmp, ↓t_cmp2, ↓t_call, ↓t_callK, ↓t_bi, ↓t_isi, ↓t_isiT, ↓t_ix, ↓l_nil, ↓l_cons, ↓lt_nil, ↓lt_cons, ↓looks_nil, ↓looks_cons, ↓moves_nil, ↓moves_cons, ↓i_seq, ↓i_rng1, ↓i_rng2, ↓i_enum, ↓i_zip, ↓it_list, ↓it_tuple, ↓it_s, ↓gg_n, ↓gg_t, ↓gg_ix, ↓gs_nil, ↓gs_cons, ↓g_tupS, ↓g_lstS, ↓g_lstCS, ↓g_mkL, ↓g_mkC, ↓g_ixT, ↓g_ixL, ↓g_negK, ↓g_asCell, ↓p_nil, ↓p_one, ↓s_pass, ↓s_brk, ↓s_cont, ↓s_never, ↓s_expr, ↓s_ret, ↓s_retN, ↓s_asg, ↓s_par, ↓s_par3, ↓g_rgV, ↓g_rgVK, ↓g_revL, ↓g_revT, ↓s_aug, ↓s_iff, ↓b_add, ↓b_sub, ↓b_mulr, ↓b_mull, ↓b_fdiv, ↓b_mod, ↓b_addLS, ↓b_addTS, ↓q_eqI, ↓q_neI, ↓q_eqB, ↓q_neB, ↓q_lt, ↓q_le, ↓q_gt, ↓q_ge, ↓q_isN, ↓q_isB, ↓q_isnB, ↓isB_b, ↓q_isnN, ↓q_inB, ↓q_notinB, ↓f_lenT, ↓f_lenL, ↓f_int, ↓f_abs, ↓f_max2, ↓f_min2, ↓f_tupleL, ↓f_tupleT, ↓f_listL, ↓f_listT, ↓f_divmod, ↓f_all, ↓f_any, ↓f_sum, ↓a_0, ↓a_1, ↓a_2, ↓t_v, ↓go_cons, ↓go_nil, ↓go_bind, ↓go_pure, ↓go_lookM, ↓go_lookTM, ↓go_truB, ↓go_noneM, ↓go_moveM, ↓go_ite, ↓go_fin, startE, tyB, isNone, Tgs.len, Exs.len, List.map_cons, List.map_nil, List.length_cons, List.length_nil, List.cons_append, List.nil_append, List.take_length, if_true, Bool.not_false, Bool.not_true, List.set_cons_zero, List.set_cons_succ, Nat.reduceAdd, Nat.reduceSub, List.reduceReplicate, Bool.false_eq_true, if_false, reduceIte, and_self, Bool.true_eq_false, decide_true, decide_false]
  refine go_forL (fun xs ρ s => ∃ (l : List (Int × Int)) (x2 : Option Val), xs = l.map pD ∧ l.find? (isLg p q) = lg p q ∧ ρ = [some (.d (plD p)), some (.d (plD q)), x2] ∧ s = st) ?_ ?_ _ _ _ ⟨win (per (p ++ q)), none, rfl, rfl, rfl, rfl⟩
  · rintro x r ρ s ⟨l, x2, hx, hl, rfl, rfl⟩
    cases l with
    | nil => cases hx
    | cons w l =>
      rw [List.map_cons] at hx
      injection hx with e1 e2
      subst e1 e2
      have hl : (if isLg p q w = true then some w else l.find? (isLg p q)) = lg p q := by
        rw [List.find?_cons] at hl
        rw [← hl]
        cases isLg p q w <;> rfl
      simp (maxSteps := 2000000) (disch := first | omega | assumption | (simp only [List.length_map, List.length_append, List.length_cons, List.length_nil, List.length_take, List.length_drop, List.length_reverse, List.length_replicate]; omega)) only [pD, ↓w_nil, ↓w_cons, ↓g_comp, ↓g_comp2, ↓s_for, ↓s_while, ↓g_non, ↓g_bl, ↓g_int, ↓g_str, ↓g_v, ↓g_g, ↓g_get0, ↓g_gets, ↓g_neg, ↓g_bin, ↓g_cmp, ↓g_cmp2, ↓g_and, ↓g_or, ↓g_not, ↓g_ite, ↓g_call, ↓g_callK, ↓g_bi, ↓g_listC, ↓g_rgT, ↓g_rgL, ↓g_isi, ↓g_isiT, ↓g_tup, ↓g_lst, ↓g_ix, ↓g_sl, ↓g_rev, ↓g_app, ↓g_upper, ↓t_and, ↓t_or, ↓t_not, ↓t_ite, ↓t_bl, ↓t_cmp, ↓t_cmp2, ↓t_call, ↓t_callK, ↓t_bi, ↓t_isi, ↓t_isiT, ↓t_ix, ↓l_nil, ↓l_cons, ↓lt_nil, ↓lt_cons, ↓looks_nil, ↓looks_cons, ↓moves_nil, ↓moves_cons, ↓i_seq, ↓i_rng1, ↓i_rng2, ↓i_enum, ↓i_zip, ↓it_list, ↓it_tuple, ↓it_s, ↓gg_n, ↓gg_t, ↓gg_ix, ↓gs_nil, ↓gs_cons, ↓g_tupS, ↓g_lstS, ↓g_lstCS, ↓g_mkL, ↓g_mkC, ↓g_ixT, ↓g_ixL, ↓g_negK, ↓g_asCell, ↓p_nil, ↓p_one, ↓s_pass, ↓s_brk, ↓s_cont, ↓s_never, ↓s_expr, ↓s_ret, ↓s_retN, ↓s_asg, ↓s_par, ↓s_par3, ↓g_rgV, ↓g_rgVK, ↓g_revL, ↓g_revT, ↓s_aug, ↓s_iff, ↓b_add, ↓b_sub, ↓b_mulr, ↓b_mull, ↓b_fdiv, ↓b_mod, ↓b_addLS, ↓b_addTS, ↓q_eqI, ↓q_neI, ↓q_eqB, ↓q_neB, ↓q_lt, ↓q_le, ↓q_gt, ↓q_ge, ↓q_isN, ↓q_isB, ↓q_isnB, ↓isB_b, ↓q_isnN, ↓q_inB, ↓q_notinB, ↓f_lenT, ↓f_lenL, ↓f_int, ↓f_abs, ↓f_max2, ↓f_min2, ↓f_tupleL, ↓f_tupleT, ↓f_listL, ↓f_listT, ↓f_divmod, ↓f_all, ↓f_any, ↓f_sum, ↓a_0, ↓a_1, ↓a_2, ↓t_v, ↓go_cons, ↓go_nil, ↓go_bind, ↓go_pure, ↓go_lookM, ↓go_lookTM, ↓go_truB, ↓go_noneM, ↓go_moveM, ↓go_ite, ↓go_fin, startE, tyB, isNone, Tgs.len, Exs.len, List.map_cons, List.map_nil, List.length_cons, List.length_nil, List.cons_append, List.nil_append, List.take_length, if_true, Bool.not_false, Bool.not_true, List.set_cons_zero, List.set_cons_succ, Nat.reduceAdd, Nat.reduceSub, List.reduceReplicate, Bool.false_eq_true, if_false, reduceIte, and_self, Bool.true_eq_false, decide_true, decide_false]
      refine s38 (by omega) hp ?_
      simp (maxSteps := 2000000) (disch := first | omega | assumption | (simp only [List.length_map, List.length_append, List.length_cons, List.length_nil, List.length_take, List.length_drop, List.length_reverse, List.length_replicate]; omega)) only [↓w_nil, ↓w_cons, ↓g_comp, ↓g_comp2, ↓s_for, ↓s_while, ↓g_non, ↓g_bl, ↓g_int, ↓g_str, ↓g_v, ↓g_g, ↓g_get0, ↓g_gets, ↓g_neg, ↓g_bin, ↓g_cmp, ↓g_cmp2, ↓g_and, ↓g_or, ↓g_not, ↓g_ite, ↓g_call, ↓g_callK, ↓g_bi, ↓g_listC, ↓g_rgT, ↓g_rgL, ↓g_isi, ↓g_isiT, ↓g_tup, ↓g_lst, ↓g_ix, ↓g_sl, ↓g_rev, ↓g_app, ↓g_upper, ↓t_and, ↓t_or, ↓t_not, ↓t_ite, ↓t_bl, ↓t_cmp, ↓t_cmp2, ↓t_call, ↓t_callK, ↓t_bi, ↓t_isi, ↓t_isiT, ↓t_ix, ↓l_nil, ↓l_cons, ↓lt_nil, ↓lt_cons, ↓looks_nil, ↓looks_cons, ↓moves_nil, ↓moves_cons, ↓i_seq, ↓i_rng1, ↓i_rng2, ↓i_enum, ↓i_zip, ↓it_list, ↓it_tuple, ↓it_s, ↓gg_n, ↓gg_t, ↓gg_ix, ↓gs_nil, ↓gs_cons, ↓g_tupS, ↓g_lstS, ↓g_lstCS, ↓g_mkL, ↓g_mkC, ↓g_ixT, ↓g_ixL, ↓g_negK, ↓g_asCell, ↓p_nil, ↓p_one, ↓s_pass, ↓s_brk, ↓s_cont, ↓s_never, ↓s_expr, ↓s_ret, ↓s_retN, ↓s_asg, ↓s_par, ↓s_par3, ↓g_rgV, ↓g_rgVK, ↓g_revL, ↓g_revT, ↓s_aug, ↓s_iff, ↓b_add, ↓b_sub, ↓b_mulr, ↓b_mull, ↓b_fdiv, ↓b_mod, ↓b_addLS, ↓b_addTS, ↓q_eqI, ↓q_neI, ↓q_eqB, ↓q_neB, ↓q_lt, ↓q_le, ↓q_gt, ↓q_ge, ↓q_isN, ↓q_isB, ↓q_isnB, ↓isB_b, ↓q_isnN, ↓q_inB, ↓q_notinB, ↓f_lenT, ↓f_lenL, ↓f_int, ↓f_abs, ↓f_max2, ↓f_min2, ↓f_tupleL, ↓f_tupleT, ↓f_listL, ↓f_listT, ↓f_divmod, ↓f_all, ↓f_any, ↓f_sum, ↓a_0, ↓a_1, ↓a_2, ↓t_v, ↓go_cons, ↓go_nil, ↓go_bind, ↓go_pure, ↓go_lookM, ↓go_lookTM, ↓go_truB, ↓go_noneM, ↓go_moveM, ↓go_ite, ↓go_fin, startE, tyB, isNone, Tgs.len, Exs.len, List.map_cons, List.map_nil, List.length_cons, List.length_nil, List.cons_append, List.nil_append, List.take_length, if_true, Bool.not_false, Bool.not_true, List.set_cons_zero, List.set_cons_succ, Nat.reduceAdd, Nat.reduceSub, List.reduceReplicate, Bool.false_eq_true, if_false, reduceIte, and_self, Bool.true_eq_false, decide_true, decide_false]
      refine s38 (by omega) hq' ?_
      simp (maxSteps := 2000000) (disch := first | omega | assumption | (simp only [List.length_map, List.length_append, List.length_cons, List.length_nil, List.length_take, List.length_drop, List.length_reverse, List.length_replicate]; omega)) only [↓w_nil, ↓w_cons, ↓g_comp, ↓g_comp2, ↓s_for, ↓s_while, ↓g_non, ↓g_bl, ↓g_int, ↓g_str, ↓g_v, ↓g_g, ↓g_get0, ↓g_gets, ↓g_neg, ↓g_bin, ↓g_cmp, ↓g_cmp2, ↓g_and, ↓g_or, ↓g_not, ↓g_ite, ↓g_call, ↓g_callK, ↓g_bi, ↓g_listC, ↓g_rgT, ↓g_rgL, ↓g_isi, ↓g_isiT, ↓g_tup, ↓g_lst, ↓g_ix, ↓g_sl, ↓g_rev, ↓g_app, ↓g_upper, ↓t_and, ↓t_or, ↓t_not, ↓t_ite, ↓t_bl, ↓t_cmp, ↓t_cmp2, ↓t_call, ↓t_callK, ↓t_bi, ↓t_isi, ↓t_isiT, ↓t_ix, ↓l_nil, ↓l_cons, ↓lt_nil, ↓lt_cons, ↓looks_nil, ↓looks_cons, ↓moves_nil, ↓moves_cons, ↓i_seq, ↓i_rng1, ↓i_rng2, ↓i_enum, ↓i_zip, ↓it_list, ↓it_tuple, ↓it_s, ↓gg_n, ↓gg_t, ↓gg_ix, ↓gs_nil, ↓gs_cons, ↓g_tupS, ↓g_lstS, ↓g_lstCS, ↓g_mkL, ↓g_mkC, ↓g_ixT, ↓g_ixL, ↓g_negK, ↓g_asCell, ↓p_nil, ↓p_one, ↓s_pass, ↓s_brk, ↓s_cont, ↓s_never, ↓s_expr, ↓s_ret, ↓s_retN, ↓s_asg, ↓s_par, ↓s_par3, ↓g_rgV, ↓g_rgVK, ↓g_revL, ↓g_revT, ↓s_aug, ↓s_iff, ↓b_add, ↓b_sub, ↓b_mulr, ↓b_mull, ↓b_fdiv, ↓b_mod, ↓b_addLS, ↓b_addTS, ↓q_eqI, ↓q_neI, ↓q_eqB, ↓q_neB, ↓q_lt, ↓q_le, ↓q_gt, ↓q_ge, ↓q_isN, ↓q_isB, ↓q_isnB, ↓isB_b, ↓q_isnN, ↓q_inB, ↓q_notinB, ↓f_lenT, ↓f_lenL, ↓f_int, ↓f_abs, ↓f_max2, ↓f_min2, ↓f_tupleL, ↓f_tupleT, ↓f_listL, ↓f_listT, ↓f_divmod, ↓f_all, ↓f_any, ↓f_sum, ↓a_0, ↓a_1, ↓a_2, ↓t_v, ↓go_cons, ↓go_nil, ↓go_bind, ↓go_pure, ↓go_lookM, ↓go_lookTM, ↓go_truB, ↓go_noneM, ↓go_moveM, ↓go_ite, ↓go_fin, startE, tyB, isNone, Tgs.len, Exs.len, List.map_cons, List.map_nil, List.length_cons, List.length_nil, List.cons_append, List.nil_append, List.take_length, if_true, Bool.not_false, Bool.not_true, List.set_cons_zero, List.set_cons_succ, Nat.reduceAdd, Nat.reduceSub, List.reduceReplicate, Bool.false_eq_true, if_false, reduceIte, and_self, Bool.true_eq_false, decide_true, decide_false]
      unfold isLg at hl
      by_cases hc : tail' q w.1 w.2 < tail' p w.1 w.2
      · rw [if_pos (decide_eq_true hc)] at hl
        simp (maxSteps := 2000000) (disch := first | omega | assumption | (simp only [List.length_map, List.length_append, List.length_cons, List.length_nil, List.length_take, List.length_drop, List.length_reverse, List.length_replicate]; omega)) only [hc, ↓w_nil, ↓w_cons, ↓g_comp, ↓g_comp2, ↓s_for, ↓s_while, ↓g_non, ↓g_bl, ↓g_int, ↓g_str, ↓g_v, ↓g_g, ↓g_get0, ↓g_gets, ↓g_neg, ↓g_bin, ↓g_cmp, ↓g_cmp2, ↓g_and, ↓g_or, ↓g_not, ↓g_ite, ↓g_call, ↓g_callK, ↓g_bi, ↓g_listC, ↓g_rgT, ↓g_rgL, ↓g_isi, ↓g_isiT, ↓g_tup, ↓g_lst, ↓g_ix, ↓g_sl, ↓g_rev, ↓g_app, ↓g_upper, ↓t_and, ↓t_or, ↓t_not, ↓t_ite, ↓t_bl, ↓t_cmp, ↓t_cmp2, ↓t_call, ↓t_callK, ↓t_bi, ↓t_isi, ↓t_isiT, ↓t_ix, ↓l_nil, ↓l_cons, ↓lt_nil, ↓lt_cons, ↓looks_nil, ↓looks_cons, ↓moves_nil, ↓moves_cons, ↓i_seq, ↓i_rng1, ↓i_rng2, ↓i_enum, ↓i_zip, ↓it_list, ↓it_tuple, ↓it_s, ↓gg_n, ↓gg_t, ↓gg_ix, ↓gs_nil, ↓gs_cons, ↓g_tupS, ↓g_lstS, ↓g_lstCS, ↓g_mkL, ↓g_mkC, ↓g_ixT, ↓g_ixL, ↓g_negK, ↓g_asCell, ↓p_nil, ↓p_one, ↓s_pass, ↓s_brk, ↓s_cont, ↓s_never, ↓s_expr, ↓s_ret, ↓s_retN, ↓s_asg, ↓s_par, ↓s_par3, ↓g_rgV, ↓g_rgVK, ↓g_revL, ↓g_revT, ↓s_aug, ↓s_iff, ↓b_add, ↓b_sub, ↓b_mulr, ↓b_mull, ↓b_fdiv, ↓b_mod, ↓b_addLS, ↓b_addTS, ↓q_eqI, ↓q_neI, ↓q_eqB, ↓q_neB, ↓q_lt, ↓q_le, ↓q_gt, ↓q_ge, ↓q_isN, ↓q_isB, ↓q_isnB, ↓isB_b, ↓q_isnN, ↓q_inB, ↓q_notinB, ↓f_lenT, ↓f_lenL, ↓f_int, ↓f_abs, ↓f_max2, ↓f_min2, ↓f_tupleL, ↓f_tupleT, ↓f_listL, ↓f_listT, ↓f_divmod, ↓f_all, ↓f_any, ↓f_sum, ↓a_0, ↓a_1, ↓a_2, ↓t_v, ↓go_cons, ↓go_nil, ↓go_bind, ↓go_pure, ↓go_lookM, ↓go_lookTM, ↓go_truB, ↓go_noneM, ↓go_moveM, ↓go_ite, ↓go_fin, startE, tyB, isNone, Tgs.len, Exs.len, List.map_cons, List.map_nil, List.length_cons, List.length_nil, List.cons_append, List.nil_append, List.take_length, if_true, Bool.not_false, Bool.not_true, List.set_cons_zero, List.set_cons_succ, Nat.reduceAdd, Nat.reduceSub, List.reduceReplicate, Bool.false_eq_true, if_false, reduceIte, and_self, Bool.true_eq_false, decide_true, decide_false]
        rw [← hl] at hq
        exact hq
      · rw [if_neg (by rw [decide_eq_false hc]; exact Bool.false_ne_true)] at hl
        simp (maxSteps := 2000000) (disch := first | omega | assumption | (simp only [List.length_map, List.length_append, List.length_cons, List.length_nil, List.length_take, List.length_drop, List.length_reverse, List.length_replicate]; omega)) only [hc, ↓w_nil, ↓w_cons, ↓g_comp, ↓g_comp2, ↓s_for, ↓s_while, ↓g_non, ↓g_bl, ↓g_int, ↓g_str, ↓g_v, ↓g_g, ↓g_get0, ↓g_gets, ↓g_neg, ↓g_bin, ↓g_cmp, ↓g_cmp2, ↓g_and, ↓g_or, ↓g_not, ↓g_ite, ↓g_call, ↓g_callK, ↓g_bi, ↓g_listC, ↓g_rgT, ↓g_rgL, ↓g_isi, ↓g_isiT, ↓g_tup, ↓g_lst, ↓g_ix, ↓g_sl, ↓g_rev, ↓g_app, ↓g_upper, ↓t_and, ↓t_or, ↓t_not, ↓t_ite, ↓t_bl, ↓t_cmp, ↓t_cmp2, ↓t_call, ↓t_callK, ↓t_bi, ↓t_isi, ↓t_isiT, ↓t_ix, ↓l_nil, ↓l_cons, ↓lt_nil, ↓lt_cons, ↓looks_nil, ↓looks_cons, ↓moves_nil, ↓moves_cons, ↓i_seq, ↓i_rng1, ↓i_rng2, ↓i_enum, ↓i_zip, ↓it_list, ↓it_tuple, ↓it_s, ↓gg_n, ↓gg_t, ↓gg_ix, ↓gs_nil, ↓gs_cons, ↓g_tupS, ↓g_lstS, ↓g_lstCS, ↓g_mkL, ↓g_mkC, ↓g_ixT, ↓g_ixL, ↓g_negK, ↓g_asCell, ↓p_nil, ↓p_one, ↓s_pass, ↓s_brk, ↓s_cont, ↓s_never, ↓s_expr, ↓s_ret, ↓s_retN, ↓s_asg, ↓s_par, ↓s_par3, ↓g_rgV, ↓g_rgVK, ↓g_revL, ↓g_revT, ↓s_aug, ↓s_iff, ↓b_add, ↓b_sub, ↓b_mulr, ↓b_mull, ↓b_fdiv, ↓b_mod, ↓b_addLS, ↓b_addTS, ↓q_eqI, ↓q_neI, ↓q_eqB, ↓q_neB, ↓q_lt, ↓q_le, ↓q_gt, ↓q_ge, ↓q_isN, ↓q_isB, ↓q_isnB, ↓isB_b, ↓q_isnN, ↓q_inB, ↓q_notinB, ↓f_lenT, ↓f_lenL, ↓f_int, ↓f_abs, ↓f_max2, ↓f_min2, ↓f_tupleL, ↓f_tupleT, ↓f_listL, ↓f_listT, ↓f_divmod, ↓f_all, ↓f_any, ↓f_sum, ↓a_0, ↓a_1, ↓a_2, ↓t_v, ↓go_cons, ↓go_nil, ↓go_bind, ↓go_pure, ↓go_lookM, ↓go_lookTM, ↓go_truB, ↓go_noneM, ↓go_moveM, ↓go_ite, ↓go_fin, startE, tyB, isNone, Tgs.len, Exs.len, List.map_cons, List.map_nil, List.length_cons, List.length_nil, List.cons_append, List.nil_append, List.take_length, if_true, Bool.not_false, Bool.not_true, List.set_cons_zero, List.set_cons_succ, Nat.reduceAdd, Nat.reduceSub, List.reduceReplicate, Bool.false_eq_true, if_false, reduceIte, and_self, Bool.true_eq_false, decide_true, decide_false]
        exact ⟨l, _, rfl, hl, rfl, by first | rfl | trivial⟩
  · rintro ρ s ⟨l, x2, hx, hl, rfl, rfl⟩
    cases l with
    | cons w l => cases hx
    | nil =>
      have hl : none = lg p q := hl
      simp (maxSteps := 2000000) (disch := first | omega | assumption | (simp only [List.length_map, List.length_append, List.length_cons, List.length_nil, List.length_take, List.length_drop, List.length_reverse, List.length_replicate]; omega)) only [↓w_nil, ↓w_cons, ↓g_comp, ↓g_comp2, ↓s_for, ↓s_while, ↓g_non, ↓g_bl, ↓g_int, ↓g_str, ↓g_v, ↓g_g, ↓g_get0, ↓g_gets, ↓g_neg, ↓g_bin, ↓g_cmp, ↓g_cmp2, ↓g_and, ↓g_or, ↓g_not, ↓g_ite, ↓g_call, ↓g_callK, ↓g_bi, ↓g_listC, ↓g_rgT, ↓g_rgL, ↓g_isi, ↓g_isiT, ↓g_tup, ↓g_lst, ↓g_ix, ↓g_sl, ↓g_rev, ↓g_app, ↓g_upper, ↓t_and, ↓t_or, ↓t_not, ↓t_ite, ↓t_bl, ↓t_cmp, ↓t_cmp2, ↓t_call, ↓t_callK, ↓t_bi, ↓t_isi, ↓t_isiT, ↓t_ix, ↓l_nil, ↓l_cons, ↓lt_nil, ↓lt_cons, ↓looks_nil, ↓looks_cons, ↓moves_nil, ↓moves_cons, ↓i_seq, ↓i_rng1, ↓i_rng2, ↓i_enum, ↓i_zip, ↓it_list, ↓it_tuple, ↓it_s, ↓gg_n, ↓gg_t, ↓gg_ix, ↓gs_nil, ↓gs_cons, ↓g_tupS, ↓g_lstS, ↓g_lstCS, ↓g_mkL, ↓g_mkC, ↓g_ixT, ↓g_ixL, ↓g_negK, ↓g_asCell, ↓p_nil, ↓p_one, ↓s_pass, ↓s_brk, ↓s_cont, ↓s_never, ↓s_expr, ↓s_ret, ↓s_retN, ↓s_asg, ↓s_par, ↓s_par3, ↓g_rgV, ↓g_rgVK, ↓g_revL, ↓g_revT, ↓s_aug, ↓s_iff, ↓b_add, ↓b_sub, ↓b_mulr, ↓b_mull, ↓b_fdiv, ↓b_mod, ↓b_addLS, ↓b_addTS, ↓q_eqI, ↓q_neI, ↓q_eqB, ↓q_neB, ↓q_lt, ↓q_le, ↓q_gt, ↓q_ge, ↓q_isN, ↓q_isB, ↓q_isnB, ↓isB_b, ↓q_isnN, ↓q_inB, ↓q_notinB, ↓f_lenT, ↓f_lenL, ↓f_int, ↓f_abs, ↓f_max2, ↓f_min2, ↓f_tupleL, ↓f_tupleT, ↓f_listL, ↓f_listT, ↓f_divmod, ↓f_all, ↓f_any, ↓f_sum, ↓a_0, ↓a_1, ↓a_2, ↓t_v, ↓go_cons, ↓go_nil, ↓go_bind, ↓go_pure, ↓go_lookM, ↓go_lookTM, ↓go_truB, ↓go_noneM, ↓go_moveM, ↓go_ite, ↓go_fin, startE, tyB, isNone, Tgs.len, Exs.len, List.map_cons, List.map_nil, List.length_cons, List.length_nil, List.cons_append, List.nil_append, List.take_length, if_true, Bool.not_false, Bool.not_true, List.set_cons_zero, List.set_cons_succ, Nat.reduceAdd, Nat.reduceSub, List.reduceReplicate, Bool.false_eq_true, if_false, reduceIte, and_self, Bool.true_eq_false, decide_true, decide_false]
      rw [← hl] at hq
      exact hq
end
end RL

set_option Elab.async false
set_option linter.all false
set_option maxRecDepth 100000
set_option maxHeartbeats 4000000
namespace RL
open PySem PySem.Spec PyProof.Rows L2
section
variable {n : Nat} {st : Sto} {i j k : Int} {Q : Val → Sto → Prop} {c : Nat} {x y z : Int}
theorem snocD {l : Pl} {a b : Int} {s : Sto} (h : Q (.d (plD (l ++ [(a, b)]))) s) : Q (.d (.tuple (l.map pD ++ [.tuple [.int a, .int b]]))) s := by
  unfold plD at h
  rw [List.map_append] at h
  exact h
theorem midD {l l2 : Pl} {a b : Int} {s : Sto} (h : Q (.d (plD (l ++ [(a, b)] ++ l2))) s) : Q (.d (.tuple (l.map pD ++ [.tuple [.int a, .int b]] ++ l2.map pD))) s := by
  unfold plD at h
  rw [List.map_append, List.map_append] at h
  exact h
theorem catD {l l2 : Pl} {s : Sto} (h : Q (.d (plD (l ++ l2))) s) : Q (.d (.tuple (l.map pD ++ l2.map pD))) s := by
  unfold plD at h
  rw [List.map_append] at h
  exact h
theorem pok_mid {pl : Pl} {r : Nat} (h : Pok pl) (hr : r < pl.length) {l : Pl} (hl : ∀ p ∈ l, 1 ≤ p.1 ∧ p.1 ≤ 10 ∧ 0 ≤ p.2 ∧ p.2 ≤ 999) (h1 : 1 ≤ l.length) (h2 : l.length + pl.length ≤ 5) : Pok (pl.take r ++ l ++ pl.drop (r + 1)) := by
  refine ⟨fun e => ?_, ?_, fun p hp => ?_⟩
  · have := congrArg List.length e
    simp only [List.length_append, List.length_nil] at this
    omega
  · simp only [List.length_append, List.length_take, List.length_drop]
    have := h.len
    omega
  · rcases List.mem_append.mp hp with hp | hp
    · rcases List.mem_append.mp hp with hp | hp
      · exact h.all p (List.mem_of_mem_take hp)
      · exact hl p hp
    · exact h.all p (List.mem_of_mem_drop hp)
theorem cut_pp {p : Int × Int} {k : Int} (h : 0 ≤ k) : cutD [.tuple [.int p.1, .int p.2], .tuple [.int p.1, .int p.2]] none (some k) = ([p, p].take k.toNat).map pD := cut_take pD [p, p] h
theorem s42 (hn : 3 ≤ n) (h : c < st.length) {pl : Pl} (hp : Pok pl) (hq : ∀ ql x' y' z', Pok ql → Q (.d (plD ql)) (U st c x' y' z')) : Go (callN pr n 42 [.r c, .d (plD pl)]) (U st c x y z) Q := by
  obtain ⟨m, rfl⟩ : ∃ m, n = m + 1 := ⟨n - 1, by omega⟩
  rw [go_call (fi := f42) rfl rfl]
  have l1 : 1 ≤ pl.length := List.length_pos_iff.mpr hp.ne
  have l4 := hp.len
  unfold f42 plD
  refine go_cons.mpr ?_
  simp (maxSteps := 2000000) (disch := first | omega | assumption | (simp only [List.length_map, List.length_append, List.length_cons, List.length_nil, List.length_take, List.length_drop, List.length_reverse, List.length_replicate]; omega)) only [List.length_map, ↓w_nil, ↓w_cons, ↓g_comp, ↓g_comp2, ↓s_for, ↓s_while, ↓g_non, ↓g_bl, ↓g_int, ↓g_str, ↓g_v, ↓g_g, ↓g_get0, ↓g_gets, ↓g_neg, ↓g_bin, ↓g_cmp, ↓g_cmp2, ↓g_and, ↓g_or, ↓g_not, ↓g_ite, ↓g_call, ↓g_callK, ↓g_bi, ↓g_listC, ↓g_rgT, ↓g_rgL, ↓g_isi, ↓g_isiT, ↓g_tup, ↓g_lst, ↓g_ix, ↓g_sl, ↓g_rev, ↓g_app, ↓g_upper, ↓t_and, ↓t_or, ↓t_not, ↓t_ite, ↓t_bl, ↓t_cmp, ↓t_cmp2, ↓t_call, ↓t_callK, ↓t_bi, ↓t_isi, ↓t_isiT, ↓t_ix, ↓l_nil, ↓l_cons, ↓lt_nil, ↓lt_cons, ↓looks_nil, ↓looks_cons, ↓moves_nil, ↓moves_cons, ↓i_seq, ↓i_rng1, ↓i_rng2, ↓i_enum, ↓i_zip, ↓it_list, ↓it_tuple, ↓it_s, ↓gg_n, ↓gg_t, ↓gg_ix, ↓gs_nil, ↓gs_cons, ↓g_tupS, ↓g_lstS, ↓g_lstCS, ↓g_mkL, ↓g_mkC, ↓g_ixT, ↓g_ixL, ↓g_negK, ↓g_asCell, ↓p_nil, ↓p_one, ↓s_pass, ↓s_brk, ↓s_cont, ↓s_never, ↓s_expr, ↓s_ret, ↓s_retN, ↓s_asg, ↓s_par, ↓s_par3, ↓g_rgV, ↓g_rgVK, ↓g_revL, ↓g_revT, ↓s_aug, ↓s_iff, ↓b_add, ↓b_sub, ↓b_mulr, ↓b_mull, ↓b_fdiv, ↓b_mod, ↓b_addLS, ↓b_addTS, ↓q_eqI, ↓q_neI, ↓q_eqB, ↓q_neB, ↓q_lt, ↓q_le, ↓q_gt, ↓q_ge, ↓q_isN, ↓q_isB, ↓q_isnB, ↓isB_b, ↓q_isnN, ↓q_inB, ↓q_notinB, ↓f_lenT, ↓f_lenL, ↓f_int, ↓f_abs, ↓f_max2, ↓f_min2, ↓f_tupleL, ↓f_tupleT, ↓f_listL, ↓f_listT, ↓f_divmod, ↓f_all, ↓f_any, ↓f_sum, ↓a_0, ↓a_1, ↓a_2, ↓t_v, ↓go_nil, ↓go_bind, ↓go_pure, ↓go_lookM, ↓go_lookTM, ↓go_truB, ↓go_noneM, ↓go_moveM, ↓go_ite, ↓go_fin, startE, tyB, isNone, Tgs.len, Exs.len, List.map_cons, List.map_nil, List.length_cons, List.length_nil, List.cons_append, List.nil_append, List.take_length, if_true, Bool.not_false, Bool.not_true, List.set_cons_zero, List.set_cons_succ, Nat.reduceAdd, Nat.reduceSub, List.reduceReplicate, Bool.false_eq_true, if_false, reduceIte, and_self, Bool.true_eq_false, decide_true, decide_false]
  refine s31 (by omega) h (by omega) (by omega) fun r x1 y1 z1 r0 r1 => ?_
  try simp (maxSteps := 2000000) (disch := first | omega | assumption | (simp only [List.length_map, List.length_append, List.length_cons, List.length_nil, List.length_take, List.length_drop, List.length_reverse, List.length_replicate]; omega)) only [↓w_nil, ↓w_cons, ↓g_comp, ↓g_comp2, ↓s_for, ↓s_while, ↓g_non, ↓g_bl, ↓g_int, ↓g_str, ↓g_v, ↓g_g, ↓g_get0, ↓g_gets, ↓g_neg, ↓g_bin, ↓g_cmp, ↓g_cmp2, ↓g_and, ↓g_or, ↓g_not, ↓g_ite, ↓g_call, ↓g_callK, ↓g_bi, ↓g_listC, ↓g_rgT, ↓g_rgL, ↓g_isi, ↓g_isiT, ↓g_tup, ↓g_lst, ↓g_ix, ↓g_sl, ↓g_rev, ↓g_app, ↓g_upper, ↓t_and, ↓t_or, ↓t_not, ↓t_ite, ↓t_bl, ↓t_cmp, ↓t_cmp2, ↓t_call, ↓t_callK, ↓t_bi, ↓t_isi, ↓t_isiT, ↓t_ix, ↓l_nil, ↓l_cons, ↓lt_nil, ↓lt_cons, ↓looks_nil, ↓looks_cons, ↓moves_nil, ↓moves_cons, ↓i_seq, ↓i_rng1, ↓i_rng2, ↓i_enum, ↓i_zip, ↓it_list, ↓it_tuple, ↓it_s, ↓gg_n, ↓gg_t, ↓gg_ix, ↓gs_nil, ↓gs_cons, ↓g_tupS, ↓g_lstS, ↓g_lstCS, ↓g_mkL, ↓g_mkC, ↓g_ixT, ↓g_ixL, ↓g_negK, ↓g_asCell, ↓p_nil, ↓p_one, ↓s_pass, ↓s_brk, ↓s_cont, ↓s_never, ↓s_expr, ↓s_ret, ↓s_retN, ↓s_asg, ↓s_par, ↓s_par3, ↓g_rgV, ↓g_rgVK, ↓g_revL, ↓g_revT, ↓s_aug, ↓s_iff, ↓b_add, ↓b_sub, ↓b_mulr, ↓b_mull, ↓b_fdiv, ↓b_mod, ↓b_addLS, ↓b_addTS, ↓q_eqI, ↓q_neI, ↓q_eqB, ↓q_neB, ↓q_lt, ↓q_le, ↓q_gt, ↓q_ge, ↓q_isN, ↓q_isB, ↓q_isnB, ↓isB_b, ↓q_isnN, ↓q_inB, ↓q_notinB, ↓f_lenT, ↓f_lenL, ↓f_int, ↓f_abs, ↓f_max2, ↓f_min2, ↓f_tupleL, ↓f_tupleT, ↓f_listL, ↓f_listT, ↓f_divmod, ↓f_all, ↓f_any, ↓f_sum, ↓a_0, ↓a_1, ↓a_2, ↓t_v, ↓go_nil, ↓go_bind, ↓go_pure, ↓go_lookM, ↓go_lookTM, ↓go_truB, ↓go_noneM, ↓go_moveM, ↓go_ite, ↓go_fin, startE, tyB, isNone, Tgs.len, Exs.len, List.map_cons, List.map_nil, List.length_cons, List.length_nil, List.cons_append, List.nil_append, List.take_length, if_true, Bool.not_false, Bool.not_true, List.set_cons_zero, List.set_cons_succ, Nat.reduceAdd, Nat.reduceSub, List.reduceReplicate, Bool.false_eq_true, if_false, reduceIte, and_self, Bool.true_eq_false, decide_true, decide_false]
  refine s31 (by omega) h (by omega) (by omega) fun w x2 y2 z2 w0 w1 => ?_
  obtain ⟨e, he, hm⟩ := at_i (l := pl.map pD) r0 (by rw [List.length_map]; exact r1)
  obtain ⟨p, hpm, rfl⟩ := List.mem_map.mp hm
  obtain ⟨b1, b2, b3, b4⟩ := hp.all p hpm
  have rn : r.toNat < pl.length := by omega
  have he2 : atI (pl.map pD) r = some (.tuple [.int p.1, .int p.2]) := he
  have er : (r + 1).toNat = r.toNat + 1 := by omega
  refine go_cons.mpr ?_
  simp (maxSteps := 2000000) (disch := first | omega | assumption | (simp only [List.length_map, List.length_append, List.length_cons, List.length_nil, List.length_take, List.length_drop, List.length_reverse, List.length_replicate]; omega)) only [ex_of he2, ↓w_nil, ↓w_cons, ↓g_comp, ↓g_comp2, ↓s_for, ↓s_while, ↓g_non, ↓g_bl, ↓g_int, ↓g_str, ↓g_v, ↓g_g, ↓g_get0, ↓g_gets, ↓g_neg, ↓g_bin, ↓g_cmp, ↓g_cmp2, ↓g_and, ↓g_or, ↓g_not, ↓g_ite, ↓g_call, ↓g_callK, ↓g_bi, ↓g_listC, ↓g_rgT, ↓g_rgL, ↓g_isi, ↓g_isiT, ↓g_tup, ↓g_lst, ↓g_ix, ↓g_sl, ↓g_rev, ↓g_app, ↓g_upper, ↓t_and, ↓t_or, ↓t_not, ↓t_ite, ↓t_bl, ↓t_cmp, ↓t_cmp2, ↓t_call, ↓t_callK, ↓t_bi, ↓t_isi, ↓t_isiT, ↓t_ix, ↓l_nil, ↓l_cons, ↓lt_nil, ↓lt_cons, ↓looks_nil, ↓looks_cons, ↓moves_nil, ↓moves_cons, ↓i_seq, ↓i_rng1, ↓i_rng2, ↓i_enum, ↓i_zip, ↓it_list, ↓it_tuple, ↓it_s, ↓gg_n, ↓gg_t, ↓gg_ix, ↓gs_nil, ↓gs_cons, ↓g_tupS, ↓g_lstS, ↓g_lstCS, ↓g_mkL, ↓g_mkC, ↓g_ixT, ↓g_ixL, ↓g_negK, ↓g_asCell, ↓p_nil, ↓p_one, ↓s_pass, ↓s_brk, ↓s_cont, ↓s_never, ↓s_expr, ↓s_ret, ↓s_retN, ↓s_asg, ↓s_par, ↓s_par3, ↓g_rgV, ↓g_rgVK, ↓g_revL, ↓g_revT, ↓s_aug, ↓s_iff, ↓b_add, ↓b_sub, ↓b_mulr, ↓b_mull, ↓b_fdiv, ↓b_mod, ↓b_addLS, ↓b_addTS, ↓q_eqI, ↓q_neI, ↓q_eqB, ↓q_neB, ↓q_lt, ↓q_le, ↓q_gt, ↓q_ge, ↓q_isN, ↓q_isB, ↓q_isnB, ↓isB_b, ↓q_isnN, ↓q_inB, ↓q_notinB, ↓f_lenT, ↓f_lenL, ↓f_int, ↓f_abs, ↓f_max2, ↓f_min2, ↓f_tupleL, ↓f_tupleT, ↓f_listL, ↓f_listT, ↓f_divmod, ↓f_all, ↓f_any, ↓f_sum, ↓a_0, ↓a_1, ↓a_2, ↓t_v, ↓go_nil, ↓go_bind, ↓go_pure, ↓go_lookM, ↓go_lookTM, ↓go_truB, ↓go_noneM, ↓go_moveM, ↓go_ite, ↓go_fin, startE, tyB, isNone, Tgs.len, Exs.len, List.map_cons, List.map_nil, List.length_cons, List.length_nil, List.cons_append, List.nil_append, List.take_length, if_true, Bool.not_false, Bool.not_true, List.set_cons_zero, List.set_cons_succ, Nat.reduceAdd, Nat.reduceSub, List.reduceReplicate, Bool.false_eq_true, if_false, reduceIte, and_self, Bool.true_eq_false, decide_true, decide_false]
  refine go_cons.mpr ?_
  try simp (maxSteps := 2000000) (disch := first | omega | assumption | (simp only [List.length_map, List.length_append, List.length_cons, List.length_nil, List.length_take, List.length_drop, List.length_reverse, List.length_replicate]; omega)) only [↓w_nil, ↓w_cons, ↓g_comp, ↓g_comp2, ↓s_for, ↓s_while, ↓g_non, ↓g_bl, ↓g_int, ↓g_str, ↓g_v, ↓g_g, ↓g_get0, ↓g_gets, ↓g_neg, ↓g_bin, ↓g_cmp, ↓g_cmp2, ↓g_and, ↓g_or, ↓g_not, ↓g_ite, ↓g_call, ↓g_callK, ↓g_bi, ↓g_listC, ↓g_rgT, ↓g_rgL, ↓g_isi, ↓g_isiT, ↓g_tup, ↓g_lst, ↓g_ix, ↓g_sl, ↓g_rev, ↓g_app, ↓g_upper, ↓t_and, ↓t_or, ↓t_not, ↓t_ite, ↓t_bl, ↓t_cmp, ↓t_cmp2, ↓t_call, ↓t_callK, ↓t_bi, ↓t_isi, ↓t_isiT, ↓t_ix, ↓l_nil, ↓l_cons, ↓lt_nil, ↓lt_cons, ↓looks_nil, ↓looks_cons, ↓moves_nil, ↓moves_cons, ↓i_seq, ↓i_rng1, ↓i_rng2, ↓i_enum, ↓i_zip, ↓it_list, ↓it_tuple, ↓it_s, ↓gg_n, ↓gg_t, ↓gg_ix, ↓gs_nil, ↓gs_cons, ↓g_tupS, ↓g_lstS, ↓g_lstCS, ↓g_mkL, ↓g_mkC, ↓g_ixT, ↓g_ixL, ↓g_negK, ↓g_asCell, ↓p_nil, ↓p_one, ↓s_pass, ↓s_brk, ↓s_cont, ↓s_never, ↓s_expr, ↓s_ret, ↓s_retN, ↓s_asg, ↓s_par, ↓s_par3, ↓g_rgV, ↓g_rgVK, ↓g_revL, ↓g_revT, ↓s_aug, ↓s_iff, ↓b_add, ↓b_sub, ↓b_mulr, ↓b_mull, ↓b_fdiv, ↓b_mod, ↓b_addLS, ↓b_addTS, ↓q_eqI, ↓q_neI, ↓q_eqB, ↓q_neB, ↓q_lt, ↓q_le, ↓q_gt, ↓q_ge, ↓q_isN, ↓q_isB, ↓q_isnB, ↓isB_b, ↓q_isnN, ↓q_inB, ↓q_notinB, ↓f_lenT, ↓f_lenL, ↓f_int, ↓f_abs, ↓f_max2, ↓f_min2, ↓f_tupleL, ↓f_tupleT, ↓f_listL, ↓f_listT, ↓f_divmod, ↓f_all, ↓f_any, ↓f_sum, ↓a_0, ↓a_1, ↓a_2, ↓t_v, ↓go_nil, ↓go_bind, ↓go_pure, ↓go_lookM, ↓go_lookTM, ↓go_truB, ↓go_noneM, ↓go_moveM, ↓go_ite, ↓go_fin, startE, tyB, isNone, Tgs.len, Exs.len, List.map_cons, List.map_nil, List.length_cons, List.length_nil, List.cons_append, List.nil_append, List.take_length, if_true, Bool.not_false, Bool.not_true, List.set_cons_zero, List.set_cons_succ, Nat.reduceAdd, Nat.reduceSub, List.reduceReplicate, Bool.false_eq_true, if_false, reduceIte, and_self, Bool.true_eq_false, decide_true, decide_false]
  by_cases c0 : w = 0
  · simp (maxSteps := 2000000) (disch := first | omega | assumption | (simp only [List.length_map, List.length_append, List.length_cons, List.length_nil, List.length_take, List.length_drop, List.length_reverse, List.length_replicate]; omega)) only [c0, U_take, ↓w_nil, ↓w_cons, ↓g_comp, ↓g_comp2, ↓s_for, ↓s_while, ↓g_non, ↓g_bl, ↓g_int, ↓g_str, ↓g_v, ↓g_g, ↓g_get0, ↓g_gets, ↓g_neg, ↓g_bin, ↓g_cmp, ↓g_cmp2, ↓g_and, ↓g_or, ↓g_not, ↓g_ite, ↓g_call, ↓g_callK, ↓g_bi, ↓g_listC, ↓g_rgT, ↓g_rgL, ↓g_isi, ↓g_isiT, ↓g_tup, ↓g_lst, ↓g_ix, ↓g_sl, ↓g_rev, ↓g_app, ↓g_upper, ↓t_and, ↓t_or, ↓t_not, ↓t_ite, ↓t_bl, ↓t_cmp, ↓t_cmp2, ↓t_call, ↓t_callK, ↓t_bi, ↓t_isi, ↓t_isiT, ↓t_ix, ↓l_nil, ↓l_cons, ↓lt_nil, ↓lt_cons, ↓looks_nil, ↓looks_cons, ↓moves_nil, ↓moves_cons, ↓i_seq, ↓i_rng1, ↓i_rng2, ↓i_enum, ↓i_zip, ↓it_list, ↓it_tuple, ↓it_s, ↓gg_n, ↓gg_t, ↓gg_ix, ↓gs_nil, ↓gs_cons, ↓g_tupS, ↓g_lstS, ↓g_lstCS, ↓g_mkL, ↓g_mkC, ↓g_ixT, ↓g_ixL, ↓g_negK, ↓g_asCell, ↓p_nil, ↓p_one, ↓s_pass, ↓s_brk, ↓s_cont, ↓s_never, ↓s_expr, ↓s_ret, ↓s_retN, ↓s_asg, ↓s_par, ↓s_par3, ↓g_rgV, ↓g_rgVK, ↓g_revL, ↓g_revT, ↓s_aug, ↓s_iff, ↓b_add, ↓b_sub, ↓b_mulr, ↓b_mull, ↓b_fdiv, ↓b_mod, ↓b_addLS, ↓b_addTS, ↓q_eqI, ↓q_neI, ↓q_eqB, ↓q_neB, ↓q_lt, ↓q_le, ↓q_gt, ↓q_ge, ↓q_isN, ↓q_isB, ↓q_isnB, ↓isB_b, ↓q_isnN, ↓q_inB, ↓q_notinB, ↓f_lenT, ↓f_lenL, ↓f_int, ↓f_abs, ↓f_max2, ↓f_min2, ↓f_tupleL, ↓f_tupleT, ↓f_listL, ↓f_listT, ↓f_divmod, ↓f_all, ↓f_any, ↓f_sum, ↓a_0, ↓a_1, ↓a_2, ↓t_v, ↓go_cons, ↓go_nil, ↓go_bind, ↓go_pure, ↓go_lookM, ↓go_lookTM, ↓go_truB, ↓go_noneM, ↓go_moveM, ↓go_ite, ↓go_fin, startE, tyB, isNone, Tgs.len, Exs.len, List.map_cons, List.map_nil, List.length_cons, List.length_nil, List.cons_append, List.nil_append, List.take_length, if_true, Bool.not_false, Bool.not_true, List.set_cons_zero, List.set_cons_succ, Nat.reduceAdd, Nat.reduceSub, List.reduceReplicate, Bool.false_eq_true, if_false, reduceIte, and_self, Bool.true_eq_false, decide_true, decide_false]
    rw [← List.map_reverse]
    exact hq pl.reverse _ _ _ ⟨fun e => hp.ne (by simpa using e), by rw [List.length_reverse]; exact l4, fun p h => hp.all p (List.mem_reverse.mp h)⟩
  simp (maxSteps := 2000000) (disch := first | omega | assumption | (simp only [List.length_map, List.length_append, List.length_cons, List.length_nil, List.length_take, List.length_drop, List.length_reverse, List.length_replicate]; omega)) only [c0, ↓w_nil, ↓w_cons, ↓g_comp, ↓g_comp2, ↓s_for, ↓s_while, ↓g_non, ↓g_bl, ↓g_int, ↓g_str, ↓g_v, ↓g_g, ↓g_get0, ↓g_gets, ↓g_neg, ↓g_bin, ↓g_cmp, ↓g_cmp2, ↓g_and, ↓g_or, ↓g_not, ↓g_ite, ↓g_call, ↓g_callK, ↓g_bi, ↓g_listC, ↓g_rgT, ↓g_rgL, ↓g_isi, ↓g_isiT, ↓g_tup, ↓g_lst, ↓g_ix, ↓g_sl, ↓g_rev, ↓g_app, ↓g_upper, ↓t_and, ↓t_or, ↓t_not, ↓t_ite, ↓t_bl, ↓t_cmp, ↓t_cmp2, ↓t_call, ↓t_callK, ↓t_bi, ↓t_isi, ↓t_isiT, ↓t_ix, ↓l_nil, ↓l_cons, ↓lt_nil, ↓lt_cons, ↓looks_nil, ↓looks_cons, ↓moves_nil, ↓moves_cons, ↓i_seq, ↓i_rng1, ↓i_rng2, ↓i_enum, ↓i_zip, ↓it_list, ↓it_tuple, ↓it_s, ↓gg_n, ↓gg_t, ↓gg_ix, ↓gs_nil, ↓gs_cons, ↓g_tupS, ↓g_lstS, ↓g_lstCS, ↓g_mkL, ↓g_mkC, ↓g_ixT, ↓g_ixL, ↓g_negK, ↓g_asCell, ↓p_nil, ↓p_one, ↓s_pass, ↓s_brk, ↓s_cont, ↓s_never, ↓s_expr, ↓s_ret, ↓s_retN, ↓s_asg, ↓s_par, ↓s_par3, ↓g_rgV, ↓g_rgVK, ↓g_revL, ↓g_revT, ↓s_aug, ↓s_iff, ↓b_add, ↓b_sub, ↓b_mulr, ↓b_mull, ↓b_fdiv, ↓b_mod, ↓b_addLS, ↓b_addTS, ↓q_eqI, ↓q_neI, ↓q_eqB, ↓q_neB, ↓q_lt, ↓q_le, ↓q_gt, ↓q_ge, ↓q_isN, ↓q_isB, ↓q_isnB, ↓isB_b, ↓q_isnN, ↓q_inB, ↓q_notinB, ↓f_lenT, ↓f_lenL, ↓f_int, ↓f_abs, ↓f_max2, ↓f_min2, ↓f_tupleL, ↓f_tupleT, ↓f_listL, ↓f_listT, ↓f_divmod, ↓f_all, ↓f_any, ↓f_sum, ↓a_0, ↓a_1, ↓a_2, ↓t_v, ↓go_nil, ↓go_bind, ↓go_pure, ↓go_lookM, ↓go_lookTM, ↓go_truB, ↓go_noneM, ↓go_moveM, ↓go_ite, ↓go_fin, startE, tyB, isNone, Tgs.len, Exs.len, List.map_cons, List.map_nil, List.length_cons, List.length_nil, List.cons_append, List.nil_append, List.take_length, if_true, Bool.not_false, Bool.not_true, List.set_cons_zero, List.set_cons_succ, Nat.reduceAdd, Nat.reduceSub, List.reduceReplicate, Bool.false_eq_true, if_false, reduceIte, and_self, Bool.true_eq_false, decide_true, decide_false]
  refine go_cons.mpr ?_
  by_cases c1 : w = 1 ∧ (pl.length : Int) < 4
  · obtain ⟨c1, c4⟩ := c1
    simp (maxSteps := 2000000) (disch := first | omega | assumption | (simp only [List.length_map, List.length_append, List.length_cons, List.length_nil, List.length_take, List.length_drop, List.length_reverse, List.length_replicate]; omega)) only [c1, c4, List.length_map, ↓w_nil, ↓w_cons, ↓g_comp, ↓g_comp2, ↓s_for, ↓s_while, ↓g_non, ↓g_bl, ↓g_int, ↓g_str, ↓g_v, ↓g_g, ↓g_get0, ↓g_gets, ↓g_neg, ↓g_bin, ↓g_cmp, ↓g_cmp2, ↓g_and, ↓g_or, ↓g_not, ↓g_ite, ↓g_call, ↓g_callK, ↓g_bi, ↓g_listC, ↓g_rgT, ↓g_rgL, ↓g_isi, ↓g_isiT, ↓g_tup, ↓g_lst, ↓g_ix, ↓g_sl, ↓g_rev, ↓g_app, ↓g_upper, ↓t_and, ↓t_or, ↓t_not, ↓t_ite, ↓t_bl, ↓t_cmp, ↓t_cmp2, ↓t_call, ↓t_callK, ↓t_bi, ↓t_isi, ↓t_isiT, ↓t_ix, ↓l_nil, ↓l_cons, ↓lt_nil, ↓lt_cons, ↓looks_nil, ↓looks_cons, ↓moves_nil, ↓moves_cons, ↓i_seq, ↓i_rng1, ↓i_rng2, ↓i_enum, ↓i_zip, ↓it_list, ↓it_tuple, ↓it_s, ↓gg_n, ↓gg_t, ↓gg_ix, ↓gs_nil, ↓gs_cons, ↓g_tupS, ↓g_lstS, ↓g_lstCS, ↓g_mkL, ↓g_mkC, ↓g_ixT, ↓g_ixL, ↓g_negK, ↓g_asCell, ↓p_nil, ↓p_one, ↓s_pass, ↓s_brk, ↓s_cont, ↓s_never, ↓s_expr, ↓s_ret, ↓s_retN, ↓s_asg, ↓s_par, ↓s_par3, ↓g_rgV, ↓g_rgVK, ↓g_revL, ↓g_revT, ↓s_aug, ↓s_iff, ↓b_add, ↓b_sub, ↓b_mulr, ↓b_mull, ↓b_fdiv, ↓b_mod, ↓b_addLS, ↓b_addTS, ↓q_eqI, ↓q_neI, ↓q_eqB, ↓q_neB, ↓q_lt, ↓q_le, ↓q_gt, ↓q_ge, ↓q_isN, ↓q_isB, ↓q_isnB, ↓isB_b, ↓q_isnN, ↓q_inB, ↓q_notinB, ↓f_lenT, ↓f_lenL, ↓f_int, ↓f_abs, ↓f_max2, ↓f_min2, ↓f_tupleL, ↓f_tupleT, ↓f_listL, ↓f_listT, ↓f_divmod, ↓f_all, ↓f_any, ↓f_sum, ↓a_0, ↓a_1, ↓a_2, ↓t_v, ↓go_nil, ↓go_bind, ↓go_pure, ↓go_lookM, ↓go_lookTM, ↓go_truB, ↓go_noneM, ↓go_moveM, ↓go_ite, ↓go_fin, startE, tyB, isNone, Tgs.len, Exs.len, List.map_cons, List.map_nil, List.length_cons, List.length_nil, List.cons_append, List.nil_append, List.take_length, if_true, Bool.not_false, Bool.not_true, List.set_cons_zero, List.set_cons_succ, Nat.reduceAdd, Nat.reduceSub, List.reduceReplicate, Bool.false_eq_true, if_false, reduceIte, and_self, Bool.true_eq_false, decide_true, decide_false]
    refine go_cons.mpr ?_
    simp (maxSteps := 2000000) (disch := first | omega | assumption | (simp only [List.length_map, List.length_append, List.length_cons, List.length_nil, List.length_take, List.length_drop, List.length_reverse, List.length_replicate]; omega)) only [rng2_ok (i := 1) (j := 11) (by decide), rg_days, ↓w_nil, ↓w_cons, ↓g_comp, ↓g_comp2, ↓s_for, ↓s_while, ↓g_non, ↓g_bl, ↓g_int, ↓g_str, ↓g_v, ↓g_g, ↓g_get0, ↓g_gets, ↓g_neg, ↓g_bin, ↓g_cmp, ↓g_cmp2, ↓g_and, ↓g_or, ↓g_not, ↓g_ite, ↓g_call, ↓g_callK, ↓g_bi, ↓g_listC, ↓g_rgT, ↓g_rgL, ↓g_isi, ↓g_isiT, ↓g_tup, ↓g_lst, ↓g_ix, ↓g_sl, ↓g_rev, ↓g_app, ↓g_upper, ↓t_and, ↓t_or, ↓t_not, ↓t_ite, ↓t_bl, ↓t_cmp, ↓t_cmp2, ↓t_call, ↓t_callK, ↓t_bi, ↓t_isi, ↓t_isiT, ↓t_ix, ↓l_nil, ↓l_cons, ↓lt_nil, ↓lt_cons, ↓looks_nil, ↓looks_cons, ↓moves_nil, ↓moves_cons, ↓i_seq, ↓i_rng1, ↓i_rng2, ↓i_enum, ↓i_zip, ↓it_list, ↓it_tuple, ↓it_s, ↓gg_n, ↓gg_t, ↓gg_ix, ↓gs_nil, ↓gs_cons, ↓g_tupS, ↓g_lstS, ↓g_lstCS, ↓g_mkL, ↓g_mkC, ↓g_ixT, ↓g_ixL, ↓g_negK, ↓g_asCell, ↓p_nil, ↓p_one, ↓s_pass, ↓s_brk, ↓s_cont, ↓s_never, ↓s_expr, ↓s_ret, ↓s_retN, ↓s_asg, ↓s_par, ↓s_par3, ↓g_rgV, ↓g_rgVK, ↓g_revL, ↓g_revT, ↓s_aug, ↓s_iff, ↓b_add, ↓b_sub, ↓b_mulr, ↓b_mull, ↓b_fdiv, ↓b_mod, ↓b_addLS, ↓b_addTS, ↓q_eqI, ↓q_neI, ↓q_eqB, ↓q_neB, ↓q_lt, ↓q_le, ↓q_gt, ↓q_ge, ↓q_isN, ↓q_isB, ↓q_isnB, ↓isB_b, ↓q_isnN, ↓q_inB, ↓q_notinB, ↓f_lenT, ↓f_lenL, ↓f_int, ↓f_abs, ↓f_max2, ↓f_min2, ↓f_tupleL, ↓f_tupleT, ↓f_listL, ↓f_listT, ↓f_divmod, ↓f_all, ↓f_any, ↓f_sum, ↓a_0, ↓a_1, ↓a_2, ↓t_v, ↓go_nil, ↓go_bind, ↓go_pure, ↓go_lookM, ↓go_lookTM, ↓go_truB, ↓go_noneM, ↓go_moveM, ↓go_ite, ↓go_fin, startE, tyB, isNone, Tgs.len, Exs.len, List.map_cons, List.map_nil, List.length_cons, List.length_nil, List.cons_append, List.nil_append, List.take_length, if_true, Bool.not_false, Bool.not_true, List.set_cons_zero, List.set_cons_succ, Nat.reduceAdd, Nat.reduceSub, List.reduceReplicate, Bool.false_eq_true, if_false, reduceIte, and_self, Bool.true_eq_false, decide_true, decide_false]
    rw [go_of (compL_map (g := fun k => if k * p.1 < 11 then [PyData.int k] else []) (fun k hk => ?_))]
    · try simp (maxSteps := 2000000) (disch := first | omega | assumption | (simp only [List.length_map, List.length_append, List.length_cons, List.length_nil, List.length_take, List.length_drop, List.length_reverse, List.length_replicate]; omega)) only [↓w_nil, ↓w_cons, ↓g_comp, ↓g_comp2, ↓s_for, ↓s_while, ↓g_non, ↓g_bl, ↓g_int, ↓g_str, ↓g_v, ↓g_g, ↓g_get0, ↓g_gets, ↓g_neg, ↓g_bin, ↓g_cmp, ↓g_cmp2, ↓g_and, ↓g_or, ↓g_not, ↓g_ite, ↓g_call, ↓g_callK, ↓g_bi, ↓g_listC, ↓g_rgT, ↓g_rgL, ↓g_isi, ↓g_isiT, ↓g_tup, ↓g_lst, ↓g_ix, ↓g_sl, ↓g_rev, ↓g_app, ↓g_upper, ↓t_and, ↓t_or, ↓t_not, ↓t_ite, ↓t_bl, ↓t_cmp, ↓t_cmp2, ↓t_call, ↓t_callK, ↓t_bi, ↓t_isi, ↓t_isiT, ↓t_ix, ↓l_nil, ↓l_cons, ↓lt_nil, ↓lt_cons, ↓looks_nil, ↓looks_cons, ↓moves_nil, ↓moves_cons, ↓i_seq, ↓i_rng1, ↓i_rng2, ↓i_enum, ↓i_zip, ↓it_list, ↓it_tuple, ↓it_s, ↓gg_n, ↓gg_t, ↓gg_ix, ↓gs_nil, ↓gs_cons, ↓g_tupS, ↓g_lstS, ↓g_lstCS, ↓g_mkL, ↓g_mkC, ↓g_ixT, ↓g_ixL, ↓g_negK, ↓g_asCell, ↓p_nil, ↓p_one, ↓s_pass, ↓s_brk, ↓s_cont, ↓s_never, ↓s_expr, ↓s_ret, ↓s_retN, ↓s_asg, ↓s_par, ↓s_par3, ↓g_rgV, ↓g_rgVK, ↓g_revL, ↓g_revT, ↓s_aug, ↓s_iff, ↓b_add, ↓b_sub, ↓b_mulr, ↓b_mull, ↓b_fdiv, ↓b_mod, ↓b_addLS, ↓b_addTS, ↓q_eqI, ↓q_neI, ↓q_eqB, ↓q_neB, ↓q_lt, ↓q_le, ↓q_gt, ↓q_ge, ↓q_isN, ↓q_isB, ↓q_isnB, ↓isB_b, ↓q_isnN, ↓q_inB, ↓q_notinB, ↓f_lenT, ↓f_lenL, ↓f_int, ↓f_abs, ↓f_max2, ↓f_min2, ↓f_tupleL, ↓f_tupleT, ↓f_listL, ↓f_listT, ↓f_divmod, ↓f_all, ↓f_any, ↓f_sum, ↓a_0, ↓a_1, ↓a_2, ↓t_v, ↓go_nil, ↓go_bind, ↓go_pure, ↓go_lookM, ↓go_lookTM, ↓go_truB, ↓go_noneM, ↓go_moveM, ↓go_ite, ↓go_fin, startE, tyB, isNone, Tgs.len, Exs.len, List.map_cons, List.map_nil, List.length_cons, List.length_nil, List.cons_append, List.nil_append, List.take_length, if_true, Bool.not_false, Bool.not_true, List.set_cons_zero, List.set_cons_succ, Nat.reduceAdd, Nat.reduceSub, List.reduceReplicate, Bool.false_eq_true, if_false, reduceIte, and_self, Bool.true_eq_false, decide_true, decide_false]
      have lk : ∀ l : List Int, (l.flatMap fun k => if k * p.1 < 11 then [PyData.int k] else []).length ≤ l.length := flat_len fun k => by split <;> simp
      have m1 : PyData.int 1 ∈ (days 1 11).flatMap fun k => if k * p.1 < 11 then [PyData.int k] else [] := List.mem_flatMap.mpr ⟨1, days_mem.mpr (by omega), by rw [if_pos (by omega)]; simp⟩
      refine s32L (by omega) h (List.length_pos_of_mem m1) (Nat.lt_of_le_of_lt (lk _) (by rw [days_len]; decide)) fun e x5 y5 z5 he => ?_
      obtain ⟨k, hk, he⟩ := List.mem_flatMap.mp he
      have hk := days_mem.mp hk
      by_cases ck : k * p.1 < 11
      · rw [if_pos ck] at he
        obtain rfl := List.mem_singleton.mp he
        have kp : k ≤ k * p.1 := by
          have := Int.mul_le_mul_of_nonneg_left (c := k) b1 (by omega)
          omega
        try simp (maxSteps := 2000000) (disch := first | omega | assumption | (simp only [List.length_map, List.length_append, List.length_cons, List.length_nil, List.length_take, List.length_drop, List.length_reverse, List.length_replicate]; omega)) only [↓w_nil, ↓w_cons, ↓g_comp, ↓g_comp2, ↓s_for, ↓s_while, ↓g_non, ↓g_bl, ↓g_int, ↓g_str, ↓g_v, ↓g_g, ↓g_get0, ↓g_gets, ↓g_neg, ↓g_bin, ↓g_cmp, ↓g_cmp2, ↓g_and, ↓g_or, ↓g_not, ↓g_ite, ↓g_call, ↓g_callK, ↓g_bi, ↓g_listC, ↓g_rgT, ↓g_rgL, ↓g_isi, ↓g_isiT, ↓g_tup, ↓g_lst, ↓g_ix, ↓g_sl, ↓g_rev, ↓g_app, ↓g_upper, ↓t_and, ↓t_or, ↓t_not, ↓t_ite, ↓t_bl, ↓t_cmp, ↓t_cmp2, ↓t_call, ↓t_callK, ↓t_bi, ↓t_isi, ↓t_isiT, ↓t_ix, ↓l_nil, ↓l_cons, ↓lt_nil, ↓lt_cons, ↓looks_nil, ↓looks_cons, ↓moves_nil, ↓moves_cons, ↓i_seq, ↓i_rng1, ↓i_rng2, ↓i_enum, ↓i_zip, ↓it_list, ↓it_tuple, ↓it_s, ↓gg_n, ↓gg_t, ↓gg_ix, ↓gs_nil, ↓gs_cons, ↓g_tupS, ↓g_lstS, ↓g_lstCS, ↓g_mkL, ↓g_mkC, ↓g_ixT, ↓g_ixL, ↓g_negK, ↓g_asCell, ↓p_nil, ↓p_one, ↓s_pass, ↓s_brk, ↓s_cont, ↓s_never, ↓s_expr, ↓s_ret, ↓s_retN, ↓s_asg, ↓s_par, ↓s_par3, ↓g_rgV, ↓g_rgVK, ↓g_revL, ↓g_revT, ↓s_aug, ↓s_iff, ↓b_add, ↓b_sub, ↓b_mulr, ↓b_mull, ↓b_fdiv, ↓b_mod, ↓b_addLS, ↓b_addTS, ↓q_eqI, ↓q_neI, ↓q_eqB, ↓q_neB, ↓q_lt, ↓q_le, ↓q_gt, ↓q_ge, ↓q_isN, ↓q_isB, ↓q_isnB, ↓isB_b, ↓q_isnN, ↓q_inB, ↓q_notinB, ↓f_lenT, ↓f_lenL, ↓f_int, ↓f_abs, ↓f_max2, ↓f_min2, ↓f_tupleL, ↓f_tupleT, ↓f_listL, ↓f_listT, ↓f_divmod, ↓f_all, ↓f_any, ↓f_sum, ↓a_0, ↓a_1, ↓a_2, ↓t_v, ↓go_cons, ↓go_nil, ↓go_bind, ↓go_pure, ↓go_lookM, ↓go_lookTM, ↓go_truB, ↓go_noneM, ↓go_moveM, ↓go_ite, ↓go_fin, startE, tyB, isNone, Tgs.len, Exs.len, List.map_cons, List.map_nil, List.length_cons, List.length_nil, List.cons_append, List.nil_append, List.take_length, if_true, Bool.not_false, Bool.not_true, List.set_cons_zero, List.set_cons_succ, Nat.reduceAdd, Nat.reduceSub, List.reduceReplicate, Bool.false_eq_true, if_false, reduceIte, and_self, Bool.true_eq_false, decide_true, decide_false]
        refine s31 (by omega) h (by omega) (by omega) fun r3 x2 y2 z2 w0 w1 => ?_
        try simp (maxSteps := 2000000) (disch := first | omega | assumption | (simp only [List.length_map, List.length_append, List.length_cons, List.length_nil, List.length_take, List.length_drop, List.length_reverse, List.length_replicate]; omega)) only [↓w_nil, ↓w_cons, ↓g_comp, ↓g_comp2, ↓s_for, ↓s_while, ↓g_non, ↓g_bl, ↓g_int, ↓g_str, ↓g_v, ↓g_g, ↓g_get0, ↓g_gets, ↓g_neg, ↓g_bin, ↓g_cmp, ↓g_cmp2, ↓g_and, ↓g_or, ↓g_not, ↓g_ite, ↓g_call, ↓g_callK, ↓g_bi, ↓g_listC, ↓g_rgT, ↓g_rgL, ↓g_isi, ↓g_isiT, ↓g_tup, ↓g_lst, ↓g_ix, ↓g_sl, ↓g_rev, ↓g_app, ↓g_upper, ↓t_and, ↓t_or, ↓t_not, ↓t_ite, ↓t_bl, ↓t_cmp, ↓t_cmp2, ↓t_call, ↓t_callK, ↓t_bi, ↓t_isi, ↓t_isiT, ↓t_ix, ↓l_nil, ↓l_cons, ↓lt_nil, ↓lt_cons, ↓looks_nil, ↓looks_cons, ↓moves_nil, ↓moves_cons, ↓i_seq, ↓i_rng1, ↓i_rng2, ↓i_enum, ↓i_zip, ↓it_list, ↓it_tuple, ↓it_s, ↓gg_n, ↓gg_t, ↓gg_ix, ↓gs_nil, ↓gs_cons, ↓g_tupS, ↓g_lstS, ↓g_lstCS, ↓g_mkL, ↓g_mkC, ↓g_ixT, ↓g_ixL, ↓g_negK, ↓g_asCell, ↓p_nil, ↓p_one, ↓s_pass, ↓s_brk, ↓s_cont, ↓s_never, ↓s_expr, ↓s_ret, ↓s_retN, ↓s_asg, ↓s_par, ↓s_par3, ↓g_rgV, ↓g_rgVK, ↓g_revL, ↓g_revT, ↓s_aug, ↓s_iff, ↓b_add, ↓b_sub, ↓b_mulr, ↓b_mull, ↓b_fdiv, ↓b_mod, ↓b_addLS, ↓b_addTS, ↓q_eqI, ↓q_neI, ↓q_eqB, ↓q_neB, ↓q_lt, ↓q_le, ↓q_gt, ↓q_ge, ↓q_isN, ↓q_isB, ↓q_isnB, ↓isB_b, ↓q_isnN, ↓q_inB, ↓q_notinB, ↓f_lenT, ↓f_lenL, ↓f_int, ↓f_abs, ↓f_max2, ↓f_min2, ↓f_tupleL, ↓f_tupleT, ↓f_listL, ↓f_listT, ↓f_divmod, ↓f_all, ↓f_any, ↓f_sum, ↓a_0, ↓a_1, ↓a_2, ↓t_v, ↓go_cons, ↓go_nil, ↓go_bind, ↓go_pure, ↓go_lookM, ↓go_lookTM, ↓go_truB, ↓go_noneM, ↓go_moveM, ↓go_ite, ↓go_fin, startE, tyB, isNone, Tgs.len, Exs.len, List.map_cons, List.map_nil, List.length_cons, List.length_nil, List.cons_append, List.nil_append, List.take_length, if_true, Bool.not_false, Bool.not_true, List.set_cons_zero, List.set_cons_succ, Nat.reduceAdd, Nat.reduceSub, List.reduceReplicate, Bool.false_eq_true, if_false, reduceIte, and_self, Bool.true_eq_false, decide_true, decide_false]
        refine snocD ?_
        try simp (maxSteps := 2000000) (disch := first | omega | assumption | (simp only [List.length_map, List.length_append, List.length_cons, List.length_nil, List.length_take, List.length_drop, List.length_reverse, List.length_replicate]; omega)) only [U_take, ↓w_nil, ↓w_cons, ↓g_comp, ↓g_comp2, ↓s_for, ↓s_while, ↓g_non, ↓g_bl, ↓g_int, ↓g_str, ↓g_v, ↓g_g, ↓g_get0, ↓g_gets, ↓g_neg, ↓g_bin, ↓g_cmp, ↓g_cmp2, ↓g_and, ↓g_or, ↓g_not, ↓g_ite, ↓g_call, ↓g_callK, ↓g_bi, ↓g_listC, ↓g_rgT, ↓g_rgL, ↓g_isi, ↓g_isiT, ↓g_tup, ↓g_lst, ↓g_ix, ↓g_sl, ↓g_rev, ↓g_app, ↓g_upper, ↓t_and, ↓t_or, ↓t_not, ↓t_ite, ↓t_bl, ↓t_cmp, ↓t_cmp2, ↓t_call, ↓t_callK, ↓t_bi, ↓t_isi, ↓t_isiT, ↓t_ix, ↓l_nil, ↓l_cons, ↓lt_nil, ↓lt_cons, ↓looks_nil, ↓looks_cons, ↓moves_nil, ↓moves_cons, ↓i_seq, ↓i_rng1, ↓i_rng2, ↓i_enum, ↓i_zip, ↓it_list, ↓it_tuple, ↓it_s, ↓gg_n, ↓gg_t, ↓gg_ix, ↓gs_nil, ↓gs_cons, ↓g_tupS, ↓g_lstS, ↓g_lstCS, ↓g_mkL, ↓g_mkC, ↓g_ixT, ↓g_ixL, ↓g_negK, ↓g_asCell, ↓p_nil, ↓p_one, ↓s_pass, ↓s_brk, ↓s_cont, ↓s_never, ↓s_expr, ↓s_ret, ↓s_retN, ↓s_asg, ↓s_par, ↓s_par3, ↓g_rgV, ↓g_rgVK, ↓g_revL, ↓g_revT, ↓s_aug, ↓s_iff, ↓b_add, ↓b_sub, ↓b_mulr, ↓b_mull, ↓b_fdiv, ↓b_mod, ↓b_addLS, ↓b_addTS, ↓q_eqI, ↓q_neI, ↓q_eqB, ↓q_neB, ↓q_lt, ↓q_le, ↓q_gt, ↓q_ge, ↓q_isN, ↓q_isB, ↓q_isnB, ↓isB_b, ↓q_isnN, ↓q_inB, ↓q_notinB, ↓f_lenT, ↓f_lenL, ↓f_int, ↓f_abs, ↓f_max2, ↓f_min2, ↓f_tupleL, ↓f_tupleT, ↓f_listL, ↓f_listT, ↓f_divmod, ↓f_all, ↓f_any, ↓f_sum, ↓a_0, ↓a_1, ↓a_2, ↓t_v, ↓go_cons, ↓go_nil, ↓go_bind, ↓go_pure, ↓go_lookM, ↓go_lookTM, ↓go_truB, ↓go_noneM, ↓go_moveM, ↓go_ite, ↓go_fin, startE, tyB, isNone, Tgs.len, Exs.len, List.map_cons, List.map_nil, List.length_cons, List.length_nil, List.cons_append, List.nil_append, List.take_length, if_true, Bool.not_false, Bool.not_true, List.set_cons_zero, List.set_cons_succ, Nat.reduceAdd, Nat.reduceSub, List.reduceReplicate, Bool.false_eq_true, if_false, reduceIte, and_self, Bool.true_eq_false, decide_true, decide_false]
        refine hq _ _ _ _ ⟨by simp, by rw [List.length_append]; show pl.length + 1 ≤ 4; omega, fun q hq => ?_⟩
        rcases List.mem_append.mp hq with hq | hq
        · exact hp.all q hq
        · rw [List.mem_singleton.mp hq]
          refine ⟨by show 1 ≤ k * p.1; omega, by show k * p.1 ≤ 10; omega, ?_, ?_⟩
          · dsimp only
            split <;> split <;> omega
          · dsimp only
            split <;> split <;> omega
      · rw [if_neg ck] at he; cases he
    · apply ok_of
      simp (maxSteps := 2000000) (disch := first | omega | assumption | (simp only [List.length_map, List.length_append, List.length_cons, List.length_nil, List.length_take, List.length_drop, List.length_reverse, List.length_replicate]; omega)) only [↓g_compF, wipeE, ↓w_nil, ↓w_cons, ↓g_comp, ↓g_comp2, ↓s_for, ↓s_while, ↓g_non, ↓g_bl, ↓g_int, ↓g_str, ↓g_v, ↓g_g, ↓g_get0, ↓g_gets, ↓g_neg, ↓g_bin, ↓g_cmp, ↓g_cmp2, ↓g_and, ↓g_or, ↓g_not, ↓g_ite, ↓g_call, ↓g_callK, ↓g_bi, ↓g_listC, ↓g_rgT, ↓g_rgL, ↓g_isi, ↓g_isiT, ↓g_tup, ↓g_lst, ↓g_ix, ↓g_sl, ↓g_rev, ↓g_app, ↓g_upper, ↓t_and, ↓t_or, ↓t_not, ↓t_ite, ↓t_bl, ↓t_cmp, ↓t_cmp2, ↓t_call, ↓t_callK, ↓t_bi, ↓t_isi, ↓t_isiT, ↓t_ix, ↓l_nil, ↓l_cons, ↓lt_nil, ↓lt_cons, ↓looks_nil, ↓looks_cons, ↓moves_nil, ↓moves_cons, ↓i_seq, ↓i_rng1, ↓i_rng2, ↓i_enum, ↓i_zip, ↓it_list, ↓it_tuple, ↓it_s, ↓gg_n, ↓gg_t, ↓gg_ix, ↓gs_nil, ↓gs_cons, ↓g_tupS, ↓g_lstS, ↓g_lstCS, ↓g_mkL, ↓g_mkC, ↓g_ixT, ↓g_ixL, ↓g_negK, ↓g_asCell, ↓p_nil, ↓p_one, ↓s_pass, ↓s_brk, ↓s_cont, ↓s_never, ↓s_expr, ↓s_ret, ↓s_retN, ↓s_asg, ↓s_par, ↓s_par3, ↓g_rgV, ↓g_rgVK, ↓g_revL, ↓g_revT, ↓s_aug, ↓s_iff, ↓b_add, ↓b_sub, ↓b_mulr, ↓b_mull, ↓b_fdiv, ↓b_mod, ↓b_addLS, ↓b_addTS, ↓q_eqI, ↓q_neI, ↓q_eqB, ↓q_neB, ↓q_lt, ↓q_le, ↓q_gt, ↓q_ge, ↓q_isN, ↓q_isB, ↓q_isnB, ↓isB_b, ↓q_isnN, ↓q_inB, ↓q_notinB, ↓f_lenT, ↓f_lenL, ↓f_int, ↓f_abs, ↓f_max2, ↓f_min2, ↓f_tupleL, ↓f_tupleT, ↓f_listL, ↓f_listT, ↓f_divmod, ↓f_all, ↓f_any, ↓f_sum, ↓a_0, ↓a_1, ↓a_2, ↓t_v, ↓go_cons, ↓go_nil, ↓go_bind, ↓go_pure, ↓go_lookM, ↓go_lookTM, ↓go_truB, ↓go_noneM, ↓go_moveM, ↓go_ite, ↓go_fin, startE, tyB, isNone, Tgs.len, Exs.len, List.map_cons, List.map_nil, List.length_cons, List.length_nil, List.cons_append, List.nil_append, List.take_length, if_true, Bool.not_false, Bool.not_true, List.set_cons_zero, List.set_cons_succ, Nat.reduceAdd, Nat.reduceSub, List.reduceReplicate, Bool.false_eq_true, if_false, reduceIte, and_self, Bool.true_eq_false, decide_true, decide_false]
      by_cases ck : k * p.1 < 11 <;> simp [ck]
  have rest : ∀ x2 y2 z2, Go (exSs (callN pr m) pr.glb (.cons (.ret (.bin .add (.bin .add (.sl (.v 1) .nil (.cons (.v 2) .nil)) (.sl (.tup (.cons (.ix (.v 1) (.v 2)) (.cons (.ix (.v 1) (.v 2)) .nil))) .nil (.cons (.bin .sub (.int 5) (.bi .len (.cons (.v 1) .nil))) .nil))) (.sl (.v 1) (.cons (.bin .add (.v 2) (.int 1)) .nil) .nil))) .nil) [some (.r c), some (.d (.tuple (pl.map pD))), some (.d (.int r)), some (.d (.int w)), some (.d (.int p.1)), some (.d (.int p.2)), none, none]) (U st c x2 y2 z2) fun fl s => match fl with
                | .ret v => Go (fin false (U st c x y z).length v) s Q
                | .nx _ => Go (fin false (U st c x y z).length (.d .none)) s Q
                | _ => False := by
    intro x2 y2 z2
    simp (maxSteps := 2000000) (disch := first | omega | assumption | (simp only [List.length_map, List.length_append, List.length_cons, List.length_nil, List.length_take, List.length_drop, List.length_reverse, List.length_replicate]; omega)) only [List.length_map, ex_of he2, c_slT, cut_take _ _ r0, cut_pp (show 0 ≤ 5 - (pl.length : Int) by omega), cut_drop _ _ (show 0 ≤ r + 1 by omega), ↓w_nil, ↓w_cons, ↓g_comp, ↓g_comp2, ↓s_for, ↓s_while, ↓g_non, ↓g_bl, ↓g_int, ↓g_str, ↓g_v, ↓g_g, ↓g_get0, ↓g_gets, ↓g_neg, ↓g_bin, ↓g_cmp, ↓g_cmp2, ↓g_and, ↓g_or, ↓g_not, ↓g_ite, ↓g_call, ↓g_callK, ↓g_bi, ↓g_listC, ↓g_rgT, ↓g_rgL, ↓g_isi, ↓g_isiT, ↓g_tup, ↓g_lst, ↓g_ix, ↓g_sl, ↓g_rev, ↓g_app, ↓g_upper, ↓t_and, ↓t_or, ↓t_not, ↓t_ite, ↓t_bl, ↓t_cmp, ↓t_cmp2, ↓t_call, ↓t_callK, ↓t_bi, ↓t_isi, ↓t_isiT, ↓t_ix, ↓l_nil, ↓l_cons, ↓lt_nil, ↓lt_cons, ↓looks_nil, ↓looks_cons, ↓moves_nil, ↓moves_cons, ↓i_seq, ↓i_rng1, ↓i_rng2, ↓i_enum, ↓i_zip, ↓it_list, ↓it_tuple, ↓it_s, ↓gg_n, ↓gg_t, ↓gg_ix, ↓gs_nil, ↓gs_cons, ↓g_tupS, ↓g_lstS, ↓g_lstCS, ↓g_mkL, ↓g_mkC, ↓g_ixT, ↓g_ixL, ↓g_negK, ↓g_asCell, ↓p_nil, ↓p_one, ↓s_pass, ↓s_brk, ↓s_cont, ↓s_never, ↓s_expr, ↓s_ret, ↓s_retN, ↓s_asg, ↓s_par, ↓s_par3, ↓g_rgV, ↓g_rgVK, ↓g_revL, ↓g_revT, ↓s_aug, ↓s_iff, ↓b_add, ↓b_sub, ↓b_mulr, ↓b_mull, ↓b_fdiv, ↓b_mod, ↓b_addLS, ↓b_addTS, ↓q_eqI, ↓q_neI, ↓q_eqB, ↓q_neB, ↓q_lt, ↓q_le, ↓q_gt, ↓q_ge, ↓q_isN, ↓q_isB, ↓q_isnB, ↓isB_b, ↓q_isnN, ↓q_inB, ↓q_notinB, ↓f_lenT, ↓f_lenL, ↓f_int, ↓f_abs, ↓f_max2, ↓f_min2, ↓f_tupleL, ↓f_tupleT, ↓f_listL, ↓f_listT, ↓f_divmod, ↓f_all, ↓f_any, ↓f_sum, ↓a_0, ↓a_1, ↓a_2, ↓t_v, ↓go_cons, ↓go_nil, ↓go_bind, ↓go_pure, ↓go_lookM, ↓go_lookTM, ↓go_truB, ↓go_noneM, ↓go_moveM, ↓go_ite, ↓go_fin, startE, tyB, isNone, Tgs.len, Exs.len, List.map_cons, List.map_nil, List.length_cons, List.length_nil, List.cons_append, List.nil_append, List.take_length, if_true, Bool.not_false, Bool.not_true, List.set_cons_zero, List.set_cons_succ, Nat.reduceAdd, Nat.reduceSub, List.reduceReplicate, Bool.false_eq_true, if_false, reduceIte, and_self, Bool.true_eq_false, decide_true, decide_false]
    try simp (maxSteps := 2000000) (disch := first | omega | assumption | (simp only [List.length_map, List.length_append, List.length_cons, List.length_nil, List.length_take, List.length_drop, List.length_reverse, List.length_replicate]; omega)) only [c_slT, cut_drop _ _ (show 0 ≤ r + 1 by omega), ↓w_nil, ↓w_cons, ↓g_comp, ↓g_comp2, ↓s_for, ↓s_while, ↓g_non, ↓g_bl, ↓g_int, ↓g_str, ↓g_v, ↓g_g, ↓g_get0, ↓g_gets, ↓g_neg, ↓g_bin, ↓g_cmp, ↓g_cmp2, ↓g_and, ↓g_or, ↓g_not, ↓g_ite, ↓g_call, ↓g_callK, ↓g_bi, ↓g_listC, ↓g_rgT, ↓g_rgL, ↓g_isi, ↓g_isiT, ↓g_tup, ↓g_lst, ↓g_ix, ↓g_sl, ↓g_rev, ↓g_app, ↓g_upper, ↓t_and, ↓t_or, ↓t_not, ↓t_ite, ↓t_bl, ↓t_cmp, ↓t_cmp2, ↓t_call, ↓t_callK, ↓t_bi, ↓t_isi, ↓t_isiT, ↓t_ix, ↓l_nil, ↓l_cons, ↓lt_nil, ↓lt_cons, ↓looks_nil, ↓looks_cons, ↓moves_nil, ↓moves_cons, ↓i_seq, ↓i_rng1, ↓i_rng2, ↓i_enum, ↓i_zip, ↓it_list, ↓it_tuple, ↓it_s, ↓gg_n, ↓gg_t, ↓gg_ix, ↓gs_nil, ↓gs_cons, ↓g_tupS, ↓g_lstS, ↓g_lstCS, ↓g_mkL, ↓g_mkC, ↓g_ixT, ↓g_ixL, ↓g_negK, ↓g_asCell, ↓p_nil, ↓p_one, ↓s_pass, ↓s_brk, ↓s_cont, ↓s_never, ↓s_expr, ↓s_ret, ↓s_retN, ↓s_asg, ↓s_par, ↓s_par3, ↓g_rgV, ↓g_rgVK, ↓g_revL, ↓g_revT, ↓s_aug, ↓s_iff, ↓b_add, ↓b_sub, ↓b_mulr, ↓b_mull, ↓b_fdiv, ↓b_mod, ↓b_addLS, ↓b_addTS, ↓q_eqI, ↓q_neI, ↓q_eqB, ↓q_neB, ↓q_lt, ↓q_le, ↓q_gt, ↓q_ge, ↓q_isN, ↓q_isB, ↓q_isnB, ↓isB_b, ↓q_isnN, ↓q_inB, ↓q_notinB, ↓f_lenT, ↓f_lenL, ↓f_int, ↓f_abs, ↓f_max2, ↓f_min2, ↓f_tupleL, ↓f_tupleT, ↓f_listL, ↓f_listT, ↓f_divmod, ↓f_all, ↓f_any, ↓f_sum, ↓a_0, ↓a_1, ↓a_2, ↓t_v, ↓go_cons, ↓go_nil, ↓go_bind, ↓go_pure, ↓go_lookM, ↓go_lookTM, ↓go_truB, ↓go_noneM, ↓go_moveM, ↓go_ite, ↓go_fin, startE, tyB, isNone, Tgs.len, Exs.len, List.map_cons, List.map_nil, List.length_cons, List.length_nil, List.cons_append, List.nil_append, List.take_length, if_true, Bool.not_false, Bool.not_true, List.set_cons_zero, List.set_cons_succ, Nat.reduceAdd, Nat.reduceSub, List.reduceReplicate, Bool.false_eq_true, if_false, reduceIte, and_self, Bool.true_eq_false, decide_true, decide_false]
    rw [← List.map_append]
    refine catD ?_
    rw [er]
    simp (maxSteps := 2000000) (disch := first | omega | assumption | (simp only [List.length_map, List.length_append, List.length_cons, List.length_nil, List.length_take, List.length_drop, List.length_reverse, List.length_replicate]; omega)) only [U_take, ↓w_nil, ↓w_cons, ↓g_comp, ↓g_comp2, ↓s_for, ↓s_while, ↓g_non, ↓g_bl, ↓g_int, ↓g_str, ↓g_v, ↓g_g, ↓g_get0, ↓g_gets, ↓g_neg, ↓g_bin, ↓g_cmp, ↓g_cmp2, ↓g_and, ↓g_or, ↓g_not, ↓g_ite, ↓g_call, ↓g_callK, ↓g_bi, ↓g_listC, ↓g_rgT, ↓g_rgL, ↓g_isi, ↓g_isiT, ↓g_tup, ↓g_lst, ↓g_ix, ↓g_sl, ↓g_rev, ↓g_app, ↓g_upper, ↓t_and, ↓t_or, ↓t_not, ↓t_ite, ↓t_bl, ↓t_cmp, ↓t_cmp2, ↓t_call, ↓t_callK, ↓t_bi, ↓t_isi, ↓t_isiT, ↓t_ix, ↓l_nil, ↓l_cons, ↓lt_nil, ↓lt_cons, ↓looks_nil, ↓looks_cons, ↓moves_nil, ↓moves_cons, ↓i_seq, ↓i_rng1, ↓i_rng2, ↓i_enum, ↓i_zip, ↓it_list, ↓it_tuple, ↓it_s, ↓gg_n, ↓gg_t, ↓gg_ix, ↓gs_nil, ↓gs_cons, ↓g_tupS, ↓g_lstS, ↓g_lstCS, ↓g_mkL, ↓g_mkC, ↓g_ixT, ↓g_ixL, ↓g_negK, ↓g_asCell, ↓p_nil, ↓p_one, ↓s_pass, ↓s_brk, ↓s_cont, ↓s_never, ↓s_expr, ↓s_ret, ↓s_retN, ↓s_asg, ↓s_par, ↓s_par3, ↓g_rgV, ↓g_rgVK, ↓g_revL, ↓g_revT, ↓s_aug, ↓s_iff, ↓b_add, ↓b_sub, ↓b_mulr, ↓b_mull, ↓b_fdiv, ↓b_mod, ↓b_addLS, ↓b_addTS, ↓q_eqI, ↓q_neI, ↓q_eqB, ↓q_neB, ↓q_lt, ↓q_le, ↓q_gt, ↓q_ge, ↓q_isN, ↓q_isB, ↓q_isnB, ↓isB_b, ↓q_isnN, ↓q_inB, ↓q_notinB, ↓f_lenT, ↓f_lenL, ↓f_int, ↓f_abs, ↓f_max2, ↓f_min2, ↓f_tupleL, ↓f_tupleT, ↓f_listL, ↓f_listT, ↓f_divmod, ↓f_all, ↓f_any, ↓f_sum, ↓a_0, ↓a_1, ↓a_2, ↓t_v, ↓go_cons, ↓go_nil, ↓go_bind, ↓go_pure, ↓go_lookM, ↓go_lookTM, ↓go_truB, ↓go_noneM, ↓go_moveM, ↓go_ite, ↓go_fin, startE, tyB, isNone, Tgs.len, Exs.len, List.map_cons, List.map_nil, List.length_cons, List.length_nil, List.cons_append, List.nil_append, List.take_length, if_true, Bool.not_false, Bool.not_true, List.set_cons_zero, List.set_cons_succ, Nat.reduceAdd, Nat.reduceSub, List.reduceReplicate, Bool.false_eq_true, if_false, reduceIte, and_self, Bool.true_eq_false, decide_true, decide_false]
    refine hq _ _ _ _ (pok_mid hp rn (fun q hq => ?_) (by rw [List.length_take]; show 1 ≤ min _ 2; omega) (by rw [List.length_take]; show min _ 2 + _ ≤ _; omega))
    have := List.mem_of_mem_take hq
    simp only [List.mem_cons, List.not_mem_nil, or_false, or_self] at this
    subst this
    exact ⟨b1, b2, b3, b4⟩
  have t1 : ∀ Q2 : Bool → Sto → Prop, Q2 false (U st c x2 y2 z2) → Go ((ev (callN pr m) pr.glb (.and (.cmp .eq (.v 3) (.int 1)) (.cmp .lt (.bi .len (.cons (.v 1) .nil)) (.int 4)))).tst [some (.r c), some (.d (.tuple (pl.map pD))), some (.d (.int r)), some (.d (.int w)), some (.d (.int p.1)), some (.d (.int p.2)), none, none]) (U st c x2 y2 z2) Q2 := by
    intro Q2 q2
    by_cases d1 : w = 1
    · have d4 : ¬ (pl.length : Int) < 4 := fun z => c1 ⟨d1, z⟩
      simp (maxSteps := 2000000) (disch := first | omega | assumption | (simp only [List.length_map, List.length_append, List.length_cons, List.length_nil, List.length_take, List.length_drop, List.length_reverse, List.length_replicate]; omega)) only [d1, d4, List.length_map, ↓w_nil, ↓w_cons, ↓g_comp, ↓g_comp2, ↓s_for, ↓s_while, ↓g_non, ↓g_bl, ↓g_int, ↓g_str, ↓g_v, ↓g_g, ↓g_get0, ↓g_gets, ↓g_neg, ↓g_bin, ↓g_cmp, ↓g_cmp2, ↓g_and, ↓g_or, ↓g_not, ↓g_ite, ↓g_call, ↓g_callK, ↓g_bi, ↓g_listC, ↓g_rgT, ↓g_rgL, ↓g_isi, ↓g_isiT, ↓g_tup, ↓g_lst, ↓g_ix, ↓g_sl, ↓g_rev, ↓g_app, ↓g_upper, ↓t_and, ↓t_or, ↓t_not, ↓t_ite, ↓t_bl, ↓t_cmp, ↓t_cmp2, ↓t_call, ↓t_callK, ↓t_bi, ↓t_isi, ↓t_isiT, ↓t_ix, ↓l_nil, ↓l_cons, ↓lt_nil, ↓lt_cons, ↓looks_nil, ↓looks_cons, ↓moves_nil, ↓moves_cons, ↓i_seq, ↓i_rng1, ↓i_rng2, ↓i_enum, ↓i_zip, ↓it_list, ↓it_tuple, ↓it_s, ↓gg_n, ↓gg_t, ↓gg_ix, ↓gs_nil, ↓gs_cons, ↓g_tupS, ↓g_lstS, ↓g_lstCS, ↓g_mkL, ↓g_mkC, ↓g_ixT, ↓g_ixL, ↓g_negK, ↓g_asCell, ↓p_nil, ↓p_one, ↓s_pass, ↓s_brk, ↓s_cont, ↓s_never, ↓s_expr, ↓s_ret, ↓s_retN, ↓s_asg, ↓s_par, ↓s_par3, ↓g_rgV, ↓g_rgVK, ↓g_revL, ↓g_revT, ↓s_aug, ↓s_iff, ↓b_add, ↓b_sub, ↓b_mulr, ↓b_mull, ↓b_fdiv, ↓b_mod, ↓b_addLS, ↓b_addTS, ↓q_eqI, ↓q_neI, ↓q_eqB, ↓q_neB, ↓q_lt, ↓q_le, ↓q_gt, ↓q_ge, ↓q_isN, ↓q_isB, ↓q_isnB, ↓isB_b, ↓q_isnN, ↓q_inB, ↓q_notinB, ↓f_lenT, ↓f_lenL, ↓f_int, ↓f_abs, ↓f_max2, ↓f_min2, ↓f_tupleL, ↓f_tupleT, ↓f_listL, ↓f_listT, ↓f_divmod, ↓f_all, ↓f_any, ↓f_sum, ↓a_0, ↓a_1, ↓a_2, ↓t_v, ↓go_cons, ↓go_nil, ↓go_bind, ↓go_pure, ↓go_lookM, ↓go_lookTM, ↓go_truB, ↓go_noneM, ↓go_moveM, ↓go_ite, ↓go_fin, startE, tyB, isNone, Tgs.len, Exs.len, List.map_cons, List.map_nil, List.length_cons, List.length_nil, List.cons_append, List.nil_append, List.take_length, if_true, Bool.not_false, Bool.not_true, List.set_cons_zero, List.set_cons_succ, Nat.reduceAdd, Nat.reduceSub, List.reduceReplicate, Bool.false_eq_true, if_false, reduceIte, and_self, Bool.true_eq_false, decide_true, decide_false]
      exact q2
    · simp (maxSteps := 2000000) (disch := first | omega | assumption | (simp only [List.length_map, List.length_append, List.length_cons, List.length_nil, List.length_take, List.length_drop, List.length_reverse, List.length_replicate]; omega)) only [d1, List.length_map, ↓w_nil, ↓w_cons, ↓g_comp, ↓g_comp2, ↓s_for, ↓s_while, ↓g_non, ↓g_bl, ↓g_int, ↓g_str, ↓g_v, ↓g_g, ↓g_get0, ↓g_gets, ↓g_neg, ↓g_bin, ↓g_cmp, ↓g_cmp2, ↓g_and, ↓g_or, ↓g_not, ↓g_ite, ↓g_call, ↓g_callK, ↓g_bi, ↓g_listC, ↓g_rgT, ↓g_rgL, ↓g_isi, ↓g_isiT, ↓g_tup, ↓g_lst, ↓g_ix, ↓g_sl, ↓g_rev, ↓g_app, ↓g_upper, ↓t_and, ↓t_or, ↓t_not, ↓t_ite, ↓t_bl, ↓t_cmp, ↓t_cmp2, ↓t_call, ↓t_callK, ↓t_bi, ↓t_isi, ↓t_isiT, ↓t_ix, ↓l_nil, ↓l_cons, ↓lt_nil, ↓lt_cons, ↓looks_nil, ↓looks_cons, ↓moves_nil, ↓moves_cons, ↓i_seq, ↓i_rng1, ↓i_rng2, ↓i_enum, ↓i_zip, ↓it_list, ↓it_tuple, ↓it_s, ↓gg_n, ↓gg_t, ↓gg_ix, ↓gs_nil, ↓gs_cons, ↓g_tupS, ↓g_lstS, ↓g_lstCS, ↓g_mkL, ↓g_mkC, ↓g_ixT, ↓g_ixL, ↓g_negK, ↓g_asCell, ↓p_nil, ↓p_one, ↓s_pass, ↓s_brk, ↓s_cont, ↓s_never, ↓s_expr, ↓s_ret, ↓s_retN, ↓s_asg, ↓s_par, ↓s_par3, ↓g_rgV, ↓g_rgVK, ↓g_revL, ↓g_revT, ↓s_aug, ↓s_iff, ↓b_add, ↓b_sub, ↓b_mulr, ↓b_mull, ↓b_fdiv, ↓b_mod, ↓b_addLS, ↓b_addTS, ↓q_eqI, ↓q_neI, ↓q_eqB, ↓q_neB, ↓q_lt, ↓q_le, ↓q_gt, ↓q_ge, ↓q_isN, ↓q_isB, ↓q_isnB, ↓isB_b, ↓q_isnN, ↓q_inB, ↓q_notinB, ↓f_lenT, ↓f_lenL, ↓f_int, ↓f_abs, ↓f_max2, ↓f_min2, ↓f_tupleL, ↓f_tupleT, ↓f_listL, ↓f_listT, ↓f_divmod, ↓f_all, ↓f_any, ↓f_sum, ↓a_0, ↓a_1, ↓a_2, ↓t_v, ↓go_cons, ↓go_nil, ↓go_bind, ↓go_pure, ↓go_lookM, ↓go_lookTM, ↓go_truB, ↓go_noneM, ↓go_moveM, ↓go_ite, ↓go_fin, startE, tyB, isNone, Tgs.len, Exs.len, List.map_cons, List.map_nil, List.length_cons, List.length_nil, List.cons_append, List.nil_append, List.take_length, if_true, Bool.not_false, Bool.not_true, List.set_cons_zero, List.set_cons_succ, Nat.reduceAdd, Nat.reduceSub, List.reduceReplicate, Bool.false_eq_true, if_false, reduceIte, and_self, Bool.true_eq_false, decide_true, decide_false]
      exact q2
  rw [s_iff]
  refine t1 _ ?_
  try simp (maxSteps := 2000000) (disch := first | omega | assumption | (simp only [List.length_map, List.length_append, List.length_cons, List.length_nil, List.length_take, List.length_drop, List.length_reverse, List.length_replicate]; omega)) only [↓w_nil, ↓w_cons, ↓g_comp, ↓g_comp2, ↓s_for, ↓s_while, ↓g_non, ↓g_bl, ↓g_int, ↓g_str, ↓g_v, ↓g_g, ↓g_get0, ↓g_gets, ↓g_neg, ↓g_bin, ↓g_cmp, ↓g_cmp2, ↓g_and, ↓g_or, ↓g_not, ↓g_ite, ↓g_call, ↓g_callK, ↓g_bi, ↓g_listC, ↓g_rgT, ↓g_rgL, ↓g_isi, ↓g_isiT, ↓g_tup, ↓g_lst, ↓g_ix, ↓g_sl, ↓g_rev, ↓g_app, ↓g_upper, ↓t_and, ↓t_or, ↓t_not, ↓t_ite, ↓t_bl, ↓t_cmp, ↓t_cmp2, ↓t_call, ↓t_callK, ↓t_bi, ↓t_isi, ↓t_isiT, ↓t_ix, ↓l_nil, ↓l_cons, ↓lt_nil, ↓lt_cons, ↓looks_nil, ↓looks_cons, ↓moves_nil, ↓moves_cons, ↓i_seq, ↓i_rng1, ↓i_rng2, ↓i_enum, ↓i_zip, ↓it_list, ↓it_tuple, ↓it_s, ↓gg_n, ↓gg_t, ↓gg_ix, ↓gs_nil, ↓gs_cons, ↓g_tupS, ↓g_lstS, ↓g_lstCS, ↓g_mkL, ↓g_mkC, ↓g_ixT, ↓g_ixL, ↓g_negK, ↓g_asCell, ↓p_nil, ↓p_one, ↓s_pass, ↓s_brk, ↓s_cont, ↓s_never, ↓s_expr, ↓s_ret, ↓s_retN, ↓s_asg, ↓s_par, ↓s_par3, ↓g_rgV, ↓g_rgVK, ↓g_revL, ↓g_revT, ↓s_aug, ↓s_iff, ↓b_add, ↓b_sub, ↓b_mulr, ↓b_mull, ↓b_fdiv, ↓b_mod, ↓b_addLS, ↓b_addTS, ↓q_eqI, ↓q_neI, ↓q_eqB, ↓q_neB, ↓q_lt, ↓q_le, ↓q_gt, ↓q_ge, ↓q_isN, ↓q_isB, ↓q_isnB, ↓isB_b, ↓q_isnN, ↓q_inB, ↓q_notinB, ↓f_lenT, ↓f_lenL, ↓f_int, ↓f_abs, ↓f_max2, ↓f_min2, ↓f_tupleL, ↓f_tupleT, ↓f_listL, ↓f_listT, ↓f_divmod, ↓f_all, ↓f_any, ↓f_sum, ↓a_0, ↓a_1, ↓a_2, ↓t_v, ↓go_nil, ↓go_bind, ↓go_pure, ↓go_lookM, ↓go_lookTM, ↓go_truB, ↓go_noneM, ↓go_moveM, ↓go_ite, ↓go_fin, startE, tyB, isNone, Tgs.len, Exs.len, List.map_cons, List.map_nil, List.length_cons, List.length_nil, List.cons_append, List.nil_append, List.take_length, if_true, Bool.not_false, Bool.not_true, List.set_cons_zero, List.set_cons_succ, Nat.reduceAdd, Nat.reduceSub, List.reduceReplicate, Bool.false_eq_true, if_false, reduceIte, and_self, Bool.true_eq_false, decide_true, decide_false]
  refine go_cons.mpr ?_
  by_cases c2 : w = 2 ∧ 1 < (pl.length : Int)
  · obtain ⟨c2, c5⟩ := c2
    simp (maxSteps := 2000000) (disch := first | omega | assumption | (simp only [List.length_map, List.length_append, List.length_cons, List.length_nil, List.length_take, List.length_drop, List.length_reverse, List.length_replicate]; omega)) only [c2, c5, List.length_map, c_slT, cut_take _ _ r0, cut_drop _ _ (show 0 ≤ r + 1 by omega), ↓go_cons, ↓w_nil, ↓w_cons, ↓g_comp, ↓g_comp2, ↓s_for, ↓s_while, ↓g_non, ↓g_bl, ↓g_int, ↓g_str, ↓g_v, ↓g_g, ↓g_get0, ↓g_gets, ↓g_neg, ↓g_bin, ↓g_cmp, ↓g_cmp2, ↓g_and, ↓g_or, ↓g_not, ↓g_ite, ↓g_call, ↓g_callK, ↓g_bi, ↓g_listC, ↓g_rgT, ↓g_rgL, ↓g_isi, ↓g_isiT, ↓g_tup, ↓g_lst, ↓g_ix, ↓g_sl, ↓g_rev, ↓g_app, ↓g_upper, ↓t_and, ↓t_or, ↓t_not, ↓t_ite, ↓t_bl, ↓t_cmp, ↓t_cmp2, ↓t_call, ↓t_callK, ↓t_bi, ↓t_isi, ↓t_isiT, ↓t_ix, ↓l_nil, ↓l_cons, ↓lt_nil, ↓lt_cons, ↓looks_nil, ↓looks_cons, ↓moves_nil, ↓moves_cons, ↓i_seq, ↓i_rng1, ↓i_rng2, ↓i_enum, ↓i_zip, ↓it_list, ↓it_tuple, ↓it_s, ↓gg_n, ↓gg_t, ↓gg_ix, ↓gs_nil, ↓gs_cons, ↓g_tupS, ↓g_lstS, ↓g_lstCS, ↓g_mkL, ↓g_mkC, ↓g_ixT, ↓g_ixL, ↓g_negK, ↓g_asCell, ↓p_nil, ↓p_one, ↓s_pass, ↓s_brk, ↓s_cont, ↓s_never, ↓s_expr, ↓s_ret, ↓s_retN, ↓s_asg, ↓s_par, ↓s_par3, ↓g_rgV, ↓g_rgVK, ↓g_revL, ↓g_revT, ↓s_aug, ↓s_iff, ↓b_add, ↓b_sub, ↓b_mulr, ↓b_mull, ↓b_fdiv, ↓b_mod, ↓b_addLS, ↓b_addTS, ↓q_eqI, ↓q_neI, ↓q_eqB, ↓q_neB, ↓q_lt, ↓q_le, ↓q_gt, ↓q_ge, ↓q_isN, ↓q_isB, ↓q_isnB, ↓isB_b, ↓q_isnN, ↓q_inB, ↓q_notinB, ↓f_lenT, ↓f_lenL, ↓f_int, ↓f_abs, ↓f_max2, ↓f_min2, ↓f_tupleL, ↓f_tupleT, ↓f_listL, ↓f_listT, ↓f_divmod, ↓f_all, ↓f_any, ↓f_sum, ↓a_0, ↓a_1, ↓a_2, ↓t_v, ↓go_nil, ↓go_bind, ↓go_pure, ↓go_lookM, ↓go_lookTM, ↓go_truB, ↓go_noneM, ↓go_moveM, ↓go_ite, ↓go_fin, startE, tyB, isNone, Tgs.len, Exs.len, List.map_cons, List.map_nil, List.length_cons, List.length_nil, List.cons_append, List.nil_append, List.take_length, if_true, Bool.not_false, Bool.not_true, List.set_cons_zero, List.set_cons_succ, Nat.reduceAdd, Nat.reduceSub, List.reduceReplicate, Bool.false_eq_true, if_false, reduceIte, and_self, Bool.true_eq_false, decide_true, decide_false]
    refine catD ?_
    rw [er]
    simp (maxSteps := 2000000) (disch := first | omega | assumption | (simp only [List.length_map, List.length_append, List.length_cons, List.length_nil, List.length_take, List.length_drop, List.length_reverse, List.length_replicate]; omega)) only [U_take, ↓w_nil, ↓w_cons, ↓g_comp, ↓g_comp2, ↓s_for, ↓s_while, ↓g_non, ↓g_bl, ↓g_int, ↓g_str, ↓g_v, ↓g_g, ↓g_get0, ↓g_gets, ↓g_neg, ↓g_bin, ↓g_cmp, ↓g_cmp2, ↓g_and, ↓g_or, ↓g_not, ↓g_ite, ↓g_call, ↓g_callK, ↓g_bi, ↓g_listC, ↓g_rgT, ↓g_rgL, ↓g_isi, ↓g_isiT, ↓g_tup, ↓g_lst, ↓g_ix, ↓g_sl, ↓g_rev, ↓g_app, ↓g_upper, ↓t_and, ↓t_or, ↓t_not, ↓t_ite, ↓t_bl, ↓t_cmp, ↓t_cmp2, ↓t_call, ↓t_callK, ↓t_bi, ↓t_isi, ↓t_isiT, ↓t_ix, ↓l_nil, ↓l_cons, ↓lt_nil, ↓lt_cons, ↓looks_nil, ↓looks_cons, ↓moves_nil, ↓moves_cons, ↓i_seq, ↓i_rng1, ↓i_rng2, ↓i_enum, ↓i_zip, ↓it_list, ↓it_tuple, ↓it_s, ↓gg_n, ↓gg_t, ↓gg_ix, ↓gs_nil, ↓gs_cons, ↓g_tupS, ↓g_lstS, ↓g_lstCS, ↓g_mkL, ↓g_mkC, ↓g_ixT, ↓g_ixL, ↓g_negK, ↓g_asCell, ↓p_nil, ↓p_one, ↓s_pass, ↓s_brk, ↓s_cont, ↓s_never, ↓s_expr, ↓s_ret, ↓s_retN, ↓s_asg, ↓s_par, ↓s_par3, ↓g_rgV, ↓g_rgVK, ↓g_revL, ↓g_revT, ↓s_aug, ↓s_iff, ↓b_add, ↓b_sub, ↓b_mulr, ↓b_mull, ↓b_fdiv, ↓b_mod, ↓b_addLS, ↓b_addTS, ↓q_eqI, ↓q_neI, ↓q_eqB, ↓q_neB, ↓q_lt, ↓q_le, ↓q_gt, ↓q_ge, ↓q_isN, ↓q_isB, ↓q_isnB, ↓isB_b, ↓q_isnN, ↓q_inB, ↓q_notinB, ↓f_lenT, ↓f_lenL, ↓f_int, ↓f_abs, ↓f_max2, ↓f_min2, ↓f_tupleL, ↓f_tupleT, ↓f_listL, ↓f_listT, ↓f_divmod, ↓f_all, ↓f_any, ↓f_sum, ↓a_0, ↓a_1, ↓a_2, ↓t_v, ↓go_cons, ↓go_nil, ↓go_bind, ↓go_pure, ↓go_lookM, ↓go_lookTM, ↓go_truB, ↓go_noneM, ↓go_moveM, ↓go_ite, ↓go_fin, startE, tyB, isNone, Tgs.len, Exs.len, List.map_cons, List.map_nil, List.length_cons, List.length_nil, List.cons_append, List.nil_append, List.take_length, if_true, Bool.not_false, Bool.not_true, List.set_cons_zero, List.set_cons_succ, Nat.reduceAdd, Nat.reduceSub, List.reduceReplicate, Bool.false_eq_true, if_false, reduceIte, and_self, Bool.true_eq_false, decide_true, decide_false]
    refine hq _ _ _ _ ⟨fun e => ?_, ?_, fun q hq => ?_⟩
    · have := congrArg List.length e
      simp only [List.length_append, List.length_take, List.length_drop, List.length_nil] at this
      omega
    · simp only [List.length_append, List.length_take, List.length_drop]
      omega
    · rcases List.mem_append.mp hq with hq | hq
      · exact hp.all q (List.mem_of_mem_take hq)
      · exact hp.all q (List.mem_of_mem_drop hq)
  have t2 : ∀ Q2 : Bool → Sto → Prop, Q2 false (U st c x2 y2 z2) → Go ((ev (callN pr m) pr.glb (.and (.cmp .eq (.v 3) (.int 2)) (.cmp .gt (.bi .len (.cons (.v 1) .nil)) (.int 1)))).tst [some (.r c), some (.d (.tuple (pl.map pD))), some (.d (.int r)), some (.d (.int w)), some (.d (.int p.1)), some (.d (.int p.2)), none, none]) (U st c x2 y2 z2) Q2 := by
    intro Q2 q2
    by_cases d1 : w = 2
    · have d4 : ¬ 1 < (pl.length : Int) := fun z => c2 ⟨d1, z⟩
      simp (maxSteps := 2000000) (disch := first | omega | assumption | (simp only [List.length_map, List.length_append, List.length_cons, List.length_nil, List.length_take, List.length_drop, List.length_reverse, List.length_replicate]; omega)) only [d1, d4, List.length_map, ↓w_nil, ↓w_cons, ↓g_comp, ↓g_comp2, ↓s_for, ↓s_while, ↓g_non, ↓g_bl, ↓g_int, ↓g_str, ↓g_v, ↓g_g, ↓g_get0, ↓g_gets, ↓g_neg, ↓g_bin, ↓g_cmp, ↓g_cmp2, ↓g_and, ↓g_or, ↓g_not, ↓g_ite, ↓g_call, ↓g_callK, ↓g_bi, ↓g_listC, ↓g_rgT, ↓g_rgL, ↓g_isi, ↓g_isiT, ↓g_tup, ↓g_lst, ↓g_ix, ↓g_sl, ↓g_rev, ↓g_app, ↓g_upper, ↓t_and, ↓t_or, ↓t_not, ↓t_ite, ↓t_bl, ↓t_cmp, ↓t_cmp2, ↓t_call, ↓t_callK, ↓t_bi, ↓t_isi, ↓t_isiT, ↓t_ix, ↓l_nil, ↓l_cons, ↓lt_nil, ↓lt_cons, ↓looks_nil, ↓looks_cons, ↓moves_nil, ↓moves_cons, ↓i_seq, ↓i_rng1, ↓i_rng2, ↓i_enum, ↓i_zip, ↓it_list, ↓it_tuple, ↓it_s, ↓gg_n, ↓gg_t, ↓gg_ix, ↓gs_nil, ↓gs_cons, ↓g_tupS, ↓g_lstS, ↓g_lstCS, ↓g_mkL, ↓g_mkC, ↓g_ixT, ↓g_ixL, ↓g_negK, ↓g_asCell, ↓p_nil, ↓p_one, ↓s_pass, ↓s_brk, ↓s_cont, ↓s_never, ↓s_expr, ↓s_ret, ↓s_retN, ↓s_asg, ↓s_par, ↓s_par3, ↓g_rgV, ↓g_rgVK, ↓g_revL, ↓g_revT, ↓s_aug, ↓s_iff, ↓b_add, ↓b_sub, ↓b_mulr, ↓b_mull, ↓b_fdiv, ↓b_mod, ↓b_addLS, ↓b_addTS, ↓q_eqI, ↓q_neI, ↓q_eqB, ↓q_neB, ↓q_lt, ↓q_le, ↓q_gt, ↓q_ge, ↓q_isN, ↓q_isB, ↓q_isnB, ↓isB_b, ↓q_isnN, ↓q_inB, ↓q_notinB, ↓f_lenT, ↓f_lenL, ↓f_int, ↓f_abs, ↓f_max2, ↓f_min2, ↓f_tupleL, ↓f_tupleT, ↓f_listL, ↓f_listT, ↓f_divmod, ↓f_all, ↓f_any, ↓f_sum, ↓a_0, ↓a_1, ↓a_2, ↓t_v, ↓go_cons, ↓go_nil, ↓go_bind, ↓go_pure, ↓go_lookM, ↓go_lookTM, ↓go_truB, ↓go_noneM, ↓go_moveM, ↓go_ite, ↓go_fin, startE, tyB, isNone, Tgs.len, Exs.len, List.map_cons, List.map_nil, List.length_cons, List.length_nil, List.cons_append, List.nil_append, List.take_length, if_true, Bool.not_false, Bool.not_true, List.set_cons_zero, List.set_cons_succ, Nat.reduceAdd, Nat.reduceSub, List.reduceReplicate, Bool.false_eq_true, if_false, reduceIte, and_self, Bool.true_eq_false, decide_true, decide_false]
      exact q2
    · simp (maxSteps := 2000000) (disch := first | omega | assumption | (simp only [List.length_map, List.length_append, List.length_cons, List.length_nil, List.length_take, List.length_drop, List.length_reverse, List.length_replicate]; omega)) only [d1, List.length_map, ↓w_nil, ↓w_cons, ↓g_comp, ↓g_comp2, ↓s_for, ↓s_while, ↓g_non, ↓g_bl, ↓g_int, ↓g_str, ↓g_v, ↓g_g, ↓g_get0, ↓g_gets, ↓g_neg, ↓g_bin, ↓g_cmp, ↓g_cmp2, ↓g_and, ↓g_or, ↓g_not, ↓g_ite, ↓g_call, ↓g_callK, ↓g_bi, ↓g_listC, ↓g_rgT, ↓g_rgL, ↓g_isi, ↓g_isiT, ↓g_tup, ↓g_lst, ↓g_ix, ↓g_sl, ↓g_rev, ↓g_app, ↓g_upper, ↓t_and, ↓t_or, ↓t_not, ↓t_ite, ↓t_bl, ↓t_cmp, ↓t_cmp2, ↓t_call, ↓t_callK, ↓t_bi, ↓t_isi, ↓t_isiT, ↓t_ix, ↓l_nil, ↓l_cons, ↓lt_nil, ↓lt_cons, ↓looks_nil, ↓looks_cons, ↓moves_nil, ↓moves_cons, ↓i_seq, ↓i_rng1, ↓i_rng2, ↓i_enum, ↓i_zip, ↓it_list, ↓it_tuple, ↓it_s, ↓gg_n, ↓gg_t, ↓gg_ix, ↓gs_nil, ↓gs_cons, ↓g_tupS, ↓g_lstS, ↓g_lstCS, ↓g_mkL, ↓g_mkC, ↓g_ixT, ↓g_ixL, ↓g_negK, ↓g_asCell, ↓p_nil, ↓p_one, ↓s_pass, ↓s_brk, ↓s_cont, ↓s_never, ↓s_expr, ↓s_ret, ↓s_retN, ↓s_asg, ↓s_par, ↓s_par3, ↓g_rgV, ↓g_rgVK, ↓g_revL, ↓g_revT, ↓s_aug, ↓s_iff, ↓b_add, ↓b_sub, ↓b_mulr, ↓b_mull, ↓b_fdiv, ↓b_mod, ↓b_addLS, ↓b_addTS, ↓q_eqI, ↓q_neI, ↓q_eqB, ↓q_neB, ↓q_lt, ↓q_le, ↓q_gt, ↓q_ge, ↓q_isN, ↓q_isB, ↓q_isnB, ↓isB_b, ↓q_isnN, ↓q_inB, ↓q_notinB, ↓f_lenT, ↓f_lenL, ↓f_int, ↓f_abs, ↓f_max2, ↓f_min2, ↓f_tupleL, ↓f_tupleT, ↓f_listL, ↓f_listT, ↓f_divmod, ↓f_all, ↓f_any, ↓f_sum, ↓a_0, ↓a_1, ↓a_2, ↓t_v, ↓go_cons, ↓go_nil, ↓go_bind, ↓go_pure, ↓go_lookM, ↓go_lookTM, ↓go_truB, ↓go_noneM, ↓go_moveM, ↓go_ite, ↓go_fin, startE, tyB, isNone, Tgs.len, Exs.len, List.map_cons, List.map_nil, List.length_cons, List.length_nil, List.cons_append, List.nil_append, List.take_length, if_true, Bool.not_false, Bool.not_true, List.set_cons_zero, List.set_cons_succ, Nat.reduceAdd, Nat.reduceSub, List.reduceReplicate, Bool.false_eq_true, if_false, reduceIte, and_self, Bool.true_eq_false, decide_true, decide_false]
      exact q2
  rw [s_iff]
  refine t2 _ ?_
  try simp (maxSteps := 2000000) (disch := first | omega | assumption | (simp only [List.length_map, List.length_append, List.length_cons, List.length_nil, List.length_take, List.length_drop, List.length_reverse, List.length_replicate]; omega)) only [↓w_nil, ↓w_cons, ↓g_comp, ↓g_comp2, ↓s_for, ↓s_while, ↓g_non, ↓g_bl, ↓g_int, ↓g_str, ↓g_v, ↓g_g, ↓g_get0, ↓g_gets, ↓g_neg, ↓g_bin, ↓g_cmp, ↓g_cmp2, ↓g_and, ↓g_or, ↓g_not, ↓g_ite, ↓g_call, ↓g_callK, ↓g_bi, ↓g_listC, ↓g_rgT, ↓g_rgL, ↓g_isi, ↓g_isiT, ↓g_tup, ↓g_lst, ↓g_ix, ↓g_sl, ↓g_rev, ↓g_app, ↓g_upper, ↓t_and, ↓t_or, ↓t_not, ↓t_ite, ↓t_bl, ↓t_cmp, ↓t_cmp2, ↓t_call, ↓t_callK, ↓t_bi, ↓t_isi, ↓t_isiT, ↓t_ix, ↓l_nil, ↓l_cons, ↓lt_nil, ↓lt_cons, ↓looks_nil, ↓looks_cons, ↓moves_nil, ↓moves_cons, ↓i_seq, ↓i_rng1, ↓i_rng2, ↓i_enum, ↓i_zip, ↓it_list, ↓it_tuple, ↓it_s, ↓gg_n, ↓gg_t, ↓gg_ix, ↓gs_nil, ↓gs_cons, ↓g_tupS, ↓g_lstS, ↓g_lstCS, ↓g_mkL, ↓g_mkC, ↓g_ixT, ↓g_ixL, ↓g_negK, ↓g_asCell, ↓p_nil, ↓p_one, ↓s_pass, ↓s_brk, ↓s_cont, ↓s_never, ↓s_expr, ↓s_ret, ↓s_retN, ↓s_asg, ↓s_par, ↓s_par3, ↓g_rgV, ↓g_rgVK, ↓g_revL, ↓g_revT, ↓s_aug, ↓s_iff, ↓b_add, ↓b_sub, ↓b_mulr, ↓b_mull, ↓b_fdiv, ↓b_mod, ↓b_addLS, ↓b_addTS, ↓q_eqI, ↓q_neI, ↓q_eqB, ↓q_neB, ↓q_lt, ↓q_le, ↓q_gt, ↓q_ge, ↓q_isN, ↓q_isB, ↓q_isnB, ↓isB_b, ↓q_isnN, ↓q_inB, ↓q_notinB, ↓f_lenT, ↓f_lenL, ↓f_int, ↓f_abs, ↓f_max2, ↓f_min2, ↓f_tupleL, ↓f_tupleT, ↓f_listL, ↓f_listT, ↓f_divmod, ↓f_all, ↓f_any, ↓f_sum, ↓a_0, ↓a_1, ↓a_2, ↓t_v, ↓go_nil, ↓go_bind, ↓go_pure, ↓go_lookM, ↓go_lookTM, ↓go_truB, ↓go_noneM, ↓go_moveM, ↓go_ite, ↓go_fin, startE, tyB, isNone, Tgs.len, Exs.len, List.map_cons, List.map_nil, List.length_cons, List.length_nil, List.cons_append, List.nil_append, List.take_length, if_true, Bool.not_false, Bool.not_true, List.set_cons_zero, List.set_cons_succ, Nat.reduceAdd, Nat.reduceSub, List.reduceReplicate, Bool.false_eq_true, if_false, reduceIte, and_self, Bool.true_eq_false, decide_true, decide_false]
  refine go_cons.mpr ?_
  by_cases c3 : w = 3
  · simp (maxSteps := 2000000) (disch := first | omega | assumption | (simp only [List.length_map, List.length_append, List.length_cons, List.length_nil, List.length_take, List.length_drop, List.length_reverse, List.length_replicate]; omega)) only [c3, c_slT, cut_take _ _ r0, ↓go_cons, ↓w_nil, ↓w_cons, ↓g_comp, ↓g_comp2, ↓s_for, ↓s_while, ↓g_non, ↓g_bl, ↓g_int, ↓g_str, ↓g_v, ↓g_g, ↓g_get0, ↓g_gets, ↓g_neg, ↓g_bin, ↓g_cmp, ↓g_cmp2, ↓g_and, ↓g_or, ↓g_not, ↓g_ite, ↓g_call, ↓g_callK, ↓g_bi, ↓g_listC, ↓g_rgT, ↓g_rgL, ↓g_isi, ↓g_isiT, ↓g_tup, ↓g_lst, ↓g_ix, ↓g_sl, ↓g_rev, ↓g_app, ↓g_upper, ↓t_and, ↓t_or, ↓t_not, ↓t_ite, ↓t_bl, ↓t_cmp, ↓t_cmp2, ↓t_call, ↓t_callK, ↓t_bi, ↓t_isi, ↓t_isiT, ↓t_ix, ↓l_nil, ↓l_cons, ↓lt_nil, ↓lt_cons, ↓looks_nil, ↓looks_cons, ↓moves_nil, ↓moves_cons, ↓i_seq, ↓i_rng1, ↓i_rng2, ↓i_enum, ↓i_zip, ↓it_list, ↓it_tuple, ↓it_s, ↓gg_n, ↓gg_t, ↓gg_ix, ↓gs_nil, ↓gs_cons, ↓g_tupS, ↓g_lstS, ↓g_lstCS, ↓g_mkL, ↓g_mkC, ↓g_ixT, ↓g_ixL, ↓g_negK, ↓g_asCell, ↓p_nil, ↓p_one, ↓s_pass, ↓s_brk, ↓s_cont, ↓s_never, ↓s_expr, ↓s_ret, ↓s_retN, ↓s_asg, ↓s_par, ↓s_par3, ↓g_rgV, ↓g_rgVK, ↓g_revL, ↓g_revT, ↓s_aug, ↓s_iff, ↓b_add, ↓b_sub, ↓b_mulr, ↓b_mull, ↓b_fdiv, ↓b_mod, ↓b_addLS, ↓b_addTS, ↓q_eqI, ↓q_neI, ↓q_eqB, ↓q_neB, ↓q_lt, ↓q_le, ↓q_gt, ↓q_ge, ↓q_isN, ↓q_isB, ↓q_isnB, ↓isB_b, ↓q_isnN, ↓q_inB, ↓q_notinB, ↓f_lenT, ↓f_lenL, ↓f_int, ↓f_abs, ↓f_max2, ↓f_min2, ↓f_tupleL, ↓f_tupleT, ↓f_listL, ↓f_listT, ↓f_divmod, ↓f_all, ↓f_any, ↓f_sum, ↓a_0, ↓a_1, ↓a_2, ↓t_v, ↓go_nil, ↓go_bind, ↓go_pure, ↓go_lookM, ↓go_lookTM, ↓go_truB, ↓go_noneM, ↓go_moveM, ↓go_ite, ↓go_fin, startE, tyB, isNone, Tgs.len, Exs.len, List.map_cons, List.map_nil, List.length_cons, List.length_nil, List.cons_append, List.nil_append, List.take_length, if_true, Bool.not_false, Bool.not_true, List.set_cons_zero, List.set_cons_succ, Nat.reduceAdd, Nat.reduceSub, List.reduceReplicate, Bool.false_eq_true, if_false, reduceIte, and_self, Bool.true_eq_false, decide_true, decide_false]
    refine s32 (by omega) h (by simp) (by simp) fun e x5 y5 z5 he => ?_
    obtain ⟨v, rfl⟩ : ∃ v, e = .int v := by
      simp only [List.mem_cons, List.not_mem_nil, or_false] at he
      rcases he with rfl | rfl | rfl
      · exact ⟨_, rfl⟩
      · exact ⟨_, rfl⟩
      · exact ⟨_, rfl⟩
    simp (maxSteps := 2000000) (disch := first | omega | assumption | (simp only [List.length_map, List.length_append, List.length_cons, List.length_nil, List.length_take, List.length_drop, List.length_reverse, List.length_replicate]; omega)) only [c_slT, cut_take _ _ r0, cut_drop _ _ (show 0 ≤ r + 1 by omega), ↓w_nil, ↓w_cons, ↓g_comp, ↓g_comp2, ↓s_for, ↓s_while, ↓g_non, ↓g_bl, ↓g_int, ↓g_str, ↓g_v, ↓g_g, ↓g_get0, ↓g_gets, ↓g_neg, ↓g_bin, ↓g_cmp, ↓g_cmp2, ↓g_and, ↓g_or, ↓g_not, ↓g_ite, ↓g_call, ↓g_callK, ↓g_bi, ↓g_listC, ↓g_rgT, ↓g_rgL, ↓g_isi, ↓g_isiT, ↓g_tup, ↓g_lst, ↓g_ix, ↓g_sl, ↓g_rev, ↓g_app, ↓g_upper, ↓t_and, ↓t_or, ↓t_not, ↓t_ite, ↓t_bl, ↓t_cmp, ↓t_cmp2, ↓t_call, ↓t_callK, ↓t_bi, ↓t_isi, ↓t_isiT, ↓t_ix, ↓l_nil, ↓l_cons, ↓lt_nil, ↓lt_cons, ↓looks_nil, ↓looks_cons, ↓moves_nil, ↓moves_cons, ↓i_seq, ↓i_rng1, ↓i_rng2, ↓i_enum, ↓i_zip, ↓it_list, ↓it_tuple, ↓it_s, ↓gg_n, ↓gg_t, ↓gg_ix, ↓gs_nil, ↓gs_cons, ↓g_tupS, ↓g_lstS, ↓g_lstCS, ↓g_mkL, ↓g_mkC, ↓g_ixT, ↓g_ixL, ↓g_negK, ↓g_asCell, ↓p_nil, ↓p_one, ↓s_pass, ↓s_brk, ↓s_cont, ↓s_never, ↓s_expr, ↓s_ret, ↓s_retN, ↓s_asg, ↓s_par, ↓s_par3, ↓g_rgV, ↓g_rgVK, ↓g_revL, ↓g_revT, ↓s_aug, ↓s_iff, ↓b_add, ↓b_sub, ↓b_mulr, ↓b_mull, ↓b_fdiv, ↓b_mod, ↓b_addLS, ↓b_addTS, ↓q_eqI, ↓q_neI, ↓q_eqB, ↓q_neB, ↓q_lt, ↓q_le, ↓q_gt, ↓q_ge, ↓q_isN, ↓q_isB, ↓q_isnB, ↓isB_b, ↓q_isnN, ↓q_inB, ↓q_notinB, ↓f_lenT, ↓f_lenL, ↓f_int, ↓f_abs, ↓f_max2, ↓f_min2, ↓f_tupleL, ↓f_tupleT, ↓f_listL, ↓f_listT, ↓f_divmod, ↓f_all, ↓f_any, ↓f_sum, ↓a_0, ↓a_1, ↓a_2, ↓t_v, ↓go_cons, ↓go_nil, ↓go_bind, ↓go_pure, ↓go_lookM, ↓go_lookTM, ↓go_truB, ↓go_noneM, ↓go_moveM, ↓go_ite, ↓go_fin, startE, tyB, isNone, Tgs.len, Exs.len, List.map_cons, List.map_nil, List.length_cons, List.length_nil, List.cons_append, List.nil_append, List.take_length, if_true, Bool.not_false, Bool.not_true, List.set_cons_zero, List.set_cons_succ, Nat.reduceAdd, Nat.reduceSub, List.reduceReplicate, Bool.false_eq_true, if_false, reduceIte, and_self, Bool.true_eq_false, decide_true, decide_false]
    refine midD ?_
    rw [er]
    simp (maxSteps := 2000000) (disch := first | omega | assumption | (simp only [List.length_map, List.length_append, List.length_cons, List.length_nil, List.length_take, List.length_drop, List.length_reverse, List.length_replicate]; omega)) only [U_take, ↓w_nil, ↓w_cons, ↓g_comp, ↓g_comp2, ↓s_for, ↓s_while, ↓g_non, ↓g_bl, ↓g_int, ↓g_str, ↓g_v, ↓g_g, ↓g_get0, ↓g_gets, ↓g_neg, ↓g_bin, ↓g_cmp, ↓g_cmp2, ↓g_and, ↓g_or, ↓g_not, ↓g_ite, ↓g_call, ↓g_callK, ↓g_bi, ↓g_listC, ↓g_rgT, ↓g_rgL, ↓g_isi, ↓g_isiT, ↓g_tup, ↓g_lst, ↓g_ix, ↓g_sl, ↓g_rev, ↓g_app, ↓g_upper, ↓t_and, ↓t_or, ↓t_not, ↓t_ite, ↓t_bl, ↓t_cmp, ↓t_cmp2, ↓t_call, ↓t_callK, ↓t_bi, ↓t_isi, ↓t_isiT, ↓t_ix, ↓l_nil, ↓l_cons, ↓lt_nil, ↓lt_cons, ↓looks_nil, ↓looks_cons, ↓moves_nil, ↓moves_cons, ↓i_seq, ↓i_rng1, ↓i_rng2, ↓i_enum, ↓i_zip, ↓it_list, ↓it_tuple, ↓it_s, ↓gg_n, ↓gg_t, ↓gg_ix, ↓gs_nil, ↓gs_cons, ↓g_tupS, ↓g_lstS, ↓g_lstCS, ↓g_mkL, ↓g_mkC, ↓g_ixT, ↓g_ixL, ↓g_negK, ↓g_asCell, ↓p_nil, ↓p_one, ↓s_pass, ↓s_brk, ↓s_cont, ↓s_never, ↓s_expr, ↓s_ret, ↓s_retN, ↓s_asg, ↓s_par, ↓s_par3, ↓g_rgV, ↓g_rgVK, ↓g_revL, ↓g_revT, ↓s_aug, ↓s_iff, ↓b_add, ↓b_sub, ↓b_mulr, ↓b_mull, ↓b_fdiv, ↓b_mod, ↓b_addLS, ↓b_addTS, ↓q_eqI, ↓q_neI, ↓q_eqB, ↓q_neB, ↓q_lt, ↓q_le, ↓q_gt, ↓q_ge, ↓q_isN, ↓q_isB, ↓q_isnB, ↓isB_b, ↓q_isnN, ↓q_inB, ↓q_notinB, ↓f_lenT, ↓f_lenL, ↓f_int, ↓f_abs, ↓f_max2, ↓f_min2, ↓f_tupleL, ↓f_tupleT, ↓f_listL, ↓f_listT, ↓f_divmod, ↓f_all, ↓f_any, ↓f_sum, ↓a_0, ↓a_1, ↓a_2, ↓t_v, ↓go_cons, ↓go_nil, ↓go_bind, ↓go_pure, ↓go_lookM, ↓go_lookTM, ↓go_truB, ↓go_noneM, ↓go_moveM, ↓go_ite, ↓go_fin, startE, tyB, isNone, Tgs.len, Exs.len, List.map_cons, List.map_nil, List.length_cons, List.length_nil, List.cons_append, List.nil_append, List.take_length, if_true, Bool.not_false, Bool.not_true, List.set_cons_zero, List.set_cons_succ, Nat.reduceAdd, Nat.reduceSub, List.reduceReplicate, Bool.false_eq_true, if_false, reduceIte, and_self, Bool.true_eq_false, decide_true, decide_false]
    refine hq _ _ _ _ (pok_mid hp rn (fun q hq => ?_) (by simp) (by show 1 + _ ≤ _; omega))
    rw [List.mem_singleton.mp hq]
    refine ⟨b1, b2, ?_, ?_⟩
    · dsimp only
      split <;> split <;> omega
    · dsimp only
      split <;> split <;> omega
  simp (maxSteps := 2000000) (disch := first | omega | assumption | (simp only [List.length_map, List.length_append, List.length_cons, List.length_nil, List.length_take, List.length_drop, List.length_reverse, List.length_replicate]; omega)) only [c3, ↓w_nil, ↓w_cons, ↓g_comp, ↓g_comp2, ↓s_for, ↓s_while, ↓g_non, ↓g_bl, ↓g_int, ↓g_str, ↓g_v, ↓g_g, ↓g_get0, ↓g_gets, ↓g_neg, ↓g_bin, ↓g_cmp, ↓g_cmp2, ↓g_and, ↓g_or, ↓g_not, ↓g_ite, ↓g_call, ↓g_callK, ↓g_bi, ↓g_listC, ↓g_rgT, ↓g_rgL, ↓g_isi, ↓g_isiT, ↓g_tup, ↓g_lst, ↓g_ix, ↓g_sl, ↓g_rev, ↓g_app, ↓g_upper, ↓t_and, ↓t_or, ↓t_not, ↓t_ite, ↓t_bl, ↓t_cmp, ↓t_cmp2, ↓t_call, ↓t_callK, ↓t_bi, ↓t_isi, ↓t_isiT, ↓t_ix, ↓l_nil, ↓l_cons, ↓lt_nil, ↓lt_cons, ↓looks_nil, ↓looks_cons, ↓moves_nil, ↓moves_cons, ↓i_seq, ↓i_rng1, ↓i_rng2, ↓i_enum, ↓i_zip, ↓it_list, ↓it_tuple, ↓it_s, ↓gg_n, ↓gg_t, ↓gg_ix, ↓gs_nil, ↓gs_cons, ↓g_tupS, ↓g_lstS, ↓g_lstCS, ↓g_mkL, ↓g_mkC, ↓g_ixT, ↓g_ixL, ↓g_negK, ↓g_asCell, ↓p_nil, ↓p_one, ↓s_pass, ↓s_brk, ↓s_cont, ↓s_never, ↓s_expr, ↓s_ret, ↓s_retN, ↓s_asg, ↓s_par, ↓s_par3, ↓g_rgV, ↓g_rgVK, ↓g_revL, ↓g_revT, ↓s_aug, ↓s_iff, ↓b_add, ↓b_sub, ↓b_mulr, ↓b_mull, ↓b_fdiv, ↓b_mod, ↓b_addLS, ↓b_addTS, ↓q_eqI, ↓q_neI, ↓q_eqB, ↓q_neB, ↓q_lt, ↓q_le, ↓q_gt, ↓q_ge, ↓q_isN, ↓q_isB, ↓q_isnB, ↓isB_b, ↓q_isnN, ↓q_inB, ↓q_notinB, ↓f_lenT, ↓f_lenL, ↓f_int, ↓f_abs, ↓f_max2, ↓f_min2, ↓f_tupleL, ↓f_tupleT, ↓f_listL, ↓f_listT, ↓f_divmod, ↓f_all, ↓f_any, ↓f_sum, ↓a_0, ↓a_1, ↓a_2, ↓t_v, ↓go_nil, ↓go_bind, ↓go_pure, ↓go_lookM, ↓go_lookTM, ↓go_truB, ↓go_noneM, ↓go_moveM, ↓go_ite, ↓go_fin, startE, tyB, isNone, Tgs.len, Exs.len, List.map_cons, List.map_nil, List.length_cons, List.length_nil, List.cons_append, List.nil_append, List.take_length, if_true, Bool.not_false, Bool.not_true, List.set_cons_zero, List.set_cons_succ, Nat.reduceAdd, Nat.reduceSub, List.reduceReplicate, Bool.false_eq_true, if_false, reduceIte, and_self, Bool.true_eq_false, decide_true, decide_false]
  refine go_cons.mpr ?_
  by_cases c4 : w = 4
  · simp (maxSteps := 2000000) (disch := first | omega | assumption | (simp only [List.length_map, List.length_append, List.length_cons, List.length_nil, List.length_take, List.length_drop, List.length_reverse, List.length_replicate]; omega)) only [c4, c_slT, cut_take _ _ r0, ↓go_cons, ↓w_nil, ↓w_cons, ↓g_comp, ↓g_comp2, ↓s_for, ↓s_while, ↓g_non, ↓g_bl, ↓g_int, ↓g_str, ↓g_v, ↓g_g, ↓g_get0, ↓g_gets, ↓g_neg, ↓g_bin, ↓g_cmp, ↓g_cmp2, ↓g_and, ↓g_or, ↓g_not, ↓g_ite, ↓g_call, ↓g_callK, ↓g_bi, ↓g_listC, ↓g_rgT, ↓g_rgL, ↓g_isi, ↓g_isiT, ↓g_tup, ↓g_lst, ↓g_ix, ↓g_sl, ↓g_rev, ↓g_app, ↓g_upper, ↓t_and, ↓t_or, ↓t_not, ↓t_ite, ↓t_bl, ↓t_cmp, ↓t_cmp2, ↓t_call, ↓t_callK, ↓t_bi, ↓t_isi, ↓t_isiT, ↓t_ix, ↓l_nil, ↓l_cons, ↓lt_nil, ↓lt_cons, ↓looks_nil, ↓looks_cons, ↓moves_nil, ↓moves_cons, ↓i_seq, ↓i_rng1, ↓i_rng2, ↓i_enum, ↓i_zip, ↓it_list, ↓it_tuple, ↓it_s, ↓gg_n, ↓gg_t, ↓gg_ix, ↓gs_nil, ↓gs_cons, ↓g_tupS, ↓g_lstS, ↓g_lstCS, ↓g_mkL, ↓g_mkC, ↓g_ixT, ↓g_ixL, ↓g_negK, ↓g_asCell, ↓p_nil, ↓p_one, ↓s_pass, ↓s_brk, ↓s_cont, ↓s_never, ↓s_expr, ↓s_ret, ↓s_retN, ↓s_asg, ↓s_par, ↓s_par3, ↓g_rgV, ↓g_rgVK, ↓g_revL, ↓g_revT, ↓s_aug, ↓s_iff, ↓b_add, ↓b_sub, ↓b_mulr, ↓b_mull, ↓b_fdiv, ↓b_mod, ↓b_addLS, ↓b_addTS, ↓q_eqI, ↓q_neI, ↓q_eqB, ↓q_neB, ↓q_lt, ↓q_le, ↓q_gt, ↓q_ge, ↓q_isN, ↓q_isB, ↓q_isnB, ↓isB_b, ↓q_isnN, ↓q_inB, ↓q_notinB, ↓f_lenT, ↓f_lenL, ↓f_int, ↓f_abs, ↓f_max2, ↓f_min2, ↓f_tupleL, ↓f_tupleT, ↓f_listL, ↓f_listT, ↓f_divmod, ↓f_all, ↓f_any, ↓f_sum, ↓a_0, ↓a_1, ↓a_2, ↓t_v, ↓go_nil, ↓go_bind, ↓go_pure, ↓go_lookM, ↓go_lookTM, ↓go_truB, ↓go_noneM, ↓go_moveM, ↓go_ite, ↓go_fin, startE, tyB, isNone, Tgs.len, Exs.len, List.map_cons, List.map_nil, List.length_cons, List.length_nil, List.cons_append, List.nil_append, List.take_length, if_true, Bool.not_false, Bool.not_true, List.set_cons_zero, List.set_cons_succ, Nat.reduceAdd, Nat.reduceSub, List.reduceReplicate, Bool.false_eq_true, if_false, reduceIte, and_self, Bool.true_eq_false, decide_true, decide_false]
    refine s31 (by omega) h (by omega) (by omega) fun r3 x2 y2 z2 w0 w1 => ?_
    simp (maxSteps := 2000000) (disch := first | omega | assumption | (simp only [List.length_map, List.length_append, List.length_cons, List.length_nil, List.length_take, List.length_drop, List.length_reverse, List.length_replicate]; omega)) only [c_slT, cut_take _ _ r0, cut_drop _ _ (show 0 ≤ r + 1 by omega), ↓w_nil, ↓w_cons, ↓g_comp, ↓g_comp2, ↓s_for, ↓s_while, ↓g_non, ↓g_bl, ↓g_int, ↓g_str, ↓g_v, ↓g_g, ↓g_get0, ↓g_gets, ↓g_neg, ↓g_bin, ↓g_cmp, ↓g_cmp2, ↓g_and, ↓g_or, ↓g_not, ↓g_ite, ↓g_call, ↓g_callK, ↓g_bi, ↓g_listC, ↓g_rgT, ↓g_rgL, ↓g_isi, ↓g_isiT, ↓g_tup, ↓g_lst, ↓g_ix, ↓g_sl, ↓g_rev, ↓g_app, ↓g_upper, ↓t_and, ↓t_or, ↓t_not, ↓t_ite, ↓t_bl, ↓t_cmp, ↓t_cmp2, ↓t_call, ↓t_callK, ↓t_bi, ↓t_isi, ↓t_isiT, ↓t_ix, ↓l_nil, ↓l_cons, ↓lt_nil, ↓lt_cons, ↓looks_nil, ↓looks_cons, ↓moves_nil, ↓moves_cons, ↓i_seq, ↓i_rng1, ↓i_rng2, ↓i_enum, ↓i_zip, ↓it_list, ↓it_tuple, ↓it_s, ↓gg_n, ↓gg_t, ↓gg_ix, ↓gs_nil, ↓gs_cons, ↓g_tupS, ↓g_lstS, ↓g_lstCS, ↓g_mkL, ↓g_mkC, ↓g_ixT, ↓g_ixL, ↓g_negK, ↓g_asCell, ↓p_nil, ↓p_one, ↓s_pass, ↓s_brk, ↓s_cont, ↓s_never, ↓s_expr, ↓s_ret, ↓s_retN, ↓s_asg, ↓s_par, ↓s_par3, ↓g_rgV, ↓g_rgVK, ↓g_revL, ↓g_revT, ↓s_aug, ↓s_iff, ↓b_add, ↓b_sub, ↓b_mulr, ↓b_mull, ↓b_fdiv, ↓b_mod, ↓b_addLS, ↓b_addTS, ↓q_eqI, ↓q_neI, ↓q_eqB, ↓q_neB, ↓q_lt, ↓q_le, ↓q_gt, ↓q_ge, ↓q_isN, ↓q_isB, ↓q_isnB, ↓isB_b, ↓q_isnN, ↓q_inB, ↓q_notinB, ↓f_lenT, ↓f_lenL, ↓f_int, ↓f_abs, ↓f_max2, ↓f_min2, ↓f_tupleL, ↓f_tupleT, ↓f_listL, ↓f_listT, ↓f_divmod, ↓f_all, ↓f_any, ↓f_sum, ↓a_0, ↓a_1, ↓a_2, ↓t_v, ↓go_cons, ↓go_nil, ↓go_bind, ↓go_pure, ↓go_lookM, ↓go_lookTM, ↓go_truB, ↓go_noneM, ↓go_moveM, ↓go_ite, ↓go_fin, startE, tyB, isNone, Tgs.len, Exs.len, List.map_cons, List.map_nil, List.length_cons, List.length_nil, List.cons_append, List.nil_append, List.take_length, if_true, Bool.not_false, Bool.not_true, List.set_cons_zero, List.set_cons_succ, Nat.reduceAdd, Nat.reduceSub, List.reduceReplicate, Bool.false_eq_true, if_false, reduceIte, and_self, Bool.true_eq_false, decide_true, decide_false]
    refine midD ?_
    rw [er]
    simp (maxSteps := 2000000) (disch := first | omega | assumption | (simp only [List.length_map, List.length_append, List.length_cons, List.length_nil, List.length_take, List.length_drop, List.length_reverse, List.length_replicate]; omega)) only [U_take, ↓w_nil, ↓w_cons, ↓g_comp, ↓g_comp2, ↓s_for, ↓s_while, ↓g_non, ↓g_bl, ↓g_int, ↓g_str, ↓g_v, ↓g_g, ↓g_get0, ↓g_gets, ↓g_neg, ↓g_bin, ↓g_cmp, ↓g_cmp2, ↓g_and, ↓g_or, ↓g_not, ↓g_ite, ↓g_call, ↓g_callK, ↓g_bi, ↓g_listC, ↓g_rgT, ↓g_rgL, ↓g_isi, ↓g_isiT, ↓g_tup, ↓g_lst, ↓g_ix, ↓g_sl, ↓g_rev, ↓g_app, ↓g_upper, ↓t_and, ↓t_or, ↓t_not, ↓t_ite, ↓t_bl, ↓t_cmp, ↓t_cmp2, ↓t_call, ↓t_callK, ↓t_bi, ↓t_isi, ↓t_isiT, ↓t_ix, ↓l_nil, ↓l_cons, ↓lt_nil, ↓lt_cons, ↓looks_nil, ↓looks_cons, ↓moves_nil, ↓moves_cons, ↓i_seq, ↓i_rng1, ↓i_rng2, ↓i_enum, ↓i_zip, ↓it_list, ↓it_tuple, ↓it_s, ↓gg_n, ↓gg_t, ↓gg_ix, ↓gs_nil, ↓gs_cons, ↓g_tupS, ↓g_lstS, ↓g_lstCS, ↓g_mkL, ↓g_mkC, ↓g_ixT, ↓g_ixL, ↓g_negK, ↓g_asCell, ↓p_nil, ↓p_one, ↓s_pass, ↓s_brk, ↓s_cont, ↓s_never, ↓s_expr, ↓s_ret, ↓s_retN, ↓s_asg, ↓s_par, ↓s_par3, ↓g_rgV, ↓g_rgVK, ↓g_revL, ↓g_revT, ↓s_aug, ↓s_iff, ↓b_add, ↓b_sub, ↓b_mulr, ↓b_mull, ↓b_fdiv, ↓b_mod, ↓b_addLS, ↓b_addTS, ↓q_eqI, ↓q_neI, ↓q_eqB, ↓q_neB, ↓q_lt, ↓q_le, ↓q_gt, ↓q_ge, ↓q_isN, ↓q_isB, ↓q_isnB, ↓isB_b, ↓q_isnN, ↓q_inB, ↓q_notinB, ↓f_lenT, ↓f_lenL, ↓f_int, ↓f_abs, ↓f_max2, ↓f_min2, ↓f_tupleL, ↓f_tupleT, ↓f_listL, ↓f_listT, ↓f_divmod, ↓f_all, ↓f_any, ↓f_sum, ↓a_0, ↓a_1, ↓a_2, ↓t_v, ↓go_cons, ↓go_nil, ↓go_bind, ↓go_pure, ↓go_lookM, ↓go_lookTM, ↓go_truB, ↓go_noneM, ↓go_moveM, ↓go_ite, ↓go_fin, startE, tyB, isNone, Tgs.len, Exs.len, List.map_cons, List.map_nil, List.length_cons, List.length_nil, List.cons_append, List.nil_append, List.take_length, if_true, Bool.not_false, Bool.not_true, List.set_cons_zero, List.set_cons_succ, Nat.reduceAdd, Nat.reduceSub, List.reduceReplicate, Bool.false_eq_true, if_false, reduceIte, and_self, Bool.true_eq_false, decide_true, decide_false]
    refine hq _ _ _ _ (pok_mid hp rn (fun q hq => ?_) (by simp) (by show 1 + _ ≤ _; omega))
    rw [List.mem_singleton.mp hq]
    exact ⟨by show 1 ≤ 1 + r3; omega, by show 1 + r3 ≤ 10; omega, b3, b4⟩
  simp (maxSteps := 2000000) (disch := first | omega | assumption | (simp only [List.length_map, List.length_append, List.length_cons, List.length_nil, List.length_take, List.length_drop, List.length_reverse, List.length_replicate]; omega)) only [c4, ↓w_nil, ↓w_cons, ↓g_comp, ↓g_comp2, ↓s_for, ↓s_while, ↓g_non, ↓g_bl, ↓g_int, ↓g_str, ↓g_v, ↓g_g, ↓g_get0, ↓g_gets, ↓g_neg, ↓g_bin, ↓g_cmp, ↓g_cmp2, ↓g_and, ↓g_or, ↓g_not, ↓g_ite, ↓g_call, ↓g_callK, ↓g_bi, ↓g_listC, ↓g_rgT, ↓g_rgL, ↓g_isi, ↓g_isiT, ↓g_tup, ↓g_lst, ↓g_ix, ↓g_sl, ↓g_rev, ↓g_app, ↓g_upper, ↓t_and, ↓t_or, ↓t_not, ↓t_ite, ↓t_bl, ↓t_cmp, ↓t_cmp2, ↓t_call, ↓t_callK, ↓t_bi, ↓t_isi, ↓t_isiT, ↓t_ix, ↓l_nil, ↓l_cons, ↓lt_nil, ↓lt_cons, ↓looks_nil, ↓looks_cons, ↓moves_nil, ↓moves_cons, ↓i_seq, ↓i_rng1, ↓i_rng2, ↓i_enum, ↓i_zip, ↓it_list, ↓it_tuple, ↓it_s, ↓gg_n, ↓gg_t, ↓gg_ix, ↓gs_nil, ↓gs_cons, ↓g_tupS, ↓g_lstS, ↓g_lstCS, ↓g_mkL, ↓g_mkC, ↓g_ixT, ↓g_ixL, ↓g_negK, ↓g_asCell, ↓p_nil, ↓p_one, ↓s_pass, ↓s_brk, ↓s_cont, ↓s_never, ↓s_expr, ↓s_ret, ↓s_retN, ↓s_asg, ↓s_par, ↓s_par3, ↓g_rgV, ↓g_rgVK, ↓g_revL, ↓g_revT, ↓s_aug, ↓s_iff, ↓b_add, ↓b_sub, ↓b_mulr, ↓b_mull, ↓b_fdiv, ↓b_mod, ↓b_addLS, ↓b_addTS, ↓q_eqI, ↓q_neI, ↓q_eqB, ↓q_neB, ↓q_lt, ↓q_le, ↓q_gt, ↓q_ge, ↓q_isN, ↓q_isB, ↓q_isnB, ↓isB_b, ↓q_isnN, ↓q_inB, ↓q_notinB, ↓f_lenT, ↓f_lenL, ↓f_int, ↓f_abs, ↓f_max2, ↓f_min2, ↓f_tupleL, ↓f_tupleT, ↓f_listL, ↓f_listT, ↓f_divmod, ↓f_all, ↓f_any, ↓f_sum, ↓a_0, ↓a_1, ↓a_2, ↓t_v, ↓go_nil, ↓go_bind, ↓go_pure, ↓go_lookM, ↓go_lookTM, ↓go_truB, ↓go_noneM, ↓go_moveM, ↓go_ite, ↓go_fin, startE, tyB, isNone, Tgs.len, Exs.len, List.map_cons, List.map_nil, List.length_cons, List.length_nil, List.cons_append, List.nil_append, List.take_length, if_true, Bool.not_false, Bool.not_true, List.set_cons_zero, List.set_cons_succ, Nat.reduceAdd, Nat.reduceSub, List.reduceReplicate, Bool.false_eq_true, if_false, reduceIte, and_self, Bool.true_eq_false, decide_true, decide_false]
  exact (rest _ _ _).imp fun fl s h => by cases fl with | ret v => exact h | nx ρ => exact go_fin.mp h | _ => exact h
end
end RL

set_option Elab.async false
set_option linter.all false
set_option maxRecDepth 100000
set_option maxHeartbeats 4000000
namespace RL
open PySem PySem.Spec PyProof.Rows L2
theorem cut_ints (ns : List Int) (lo hi : Option Int) : ∃ ms : List Int, cutD (ns.map PyData.int) lo hi = ms.map PyData.int ∧ ms.length ≤ ns.length := by
  rw [cut_map]
  exact ⟨_, rfl, by rw [List.length_take, List.length_drop]; omega⟩
section
variable {n : Nat} {st : Sto} {Q : Val → Sto → Prop}
theorem s30 {ns : List Int} {lap : Int} (hn : 1 ≤ n) (hns : ns.length ≤ 63) (h0 : 0 ≤ lap) (hq : ∀ x y z, Q (.r st.length) (st ++ [⟨true, [.int x, .int y, .int z]⟩])) : Go (callN pr n 30 [.s ns, .d (.int lap)]) st Q := by
  obtain ⟨m, rfl⟩ : ∃ m, n = m + 1 := ⟨n - 1, by omega⟩
  rw [go_call (fi := f30) rfl rfl]
  obtain ⟨ms, hms, hml⟩ := cut_ints ns none (some 5)
  by_cases hc : lap < (ns.length : Int)
  · obtain ⟨x, hx, hm⟩ := at_i (l := ns.map PyData.int) h0 (by rw [List.length_map]; exact hc)
    obtain ⟨own, _, rfl⟩ := List.mem_map.mp hm
    simp (maxSteps := 2000000) (disch := first | omega | assumption | (simp only [List.length_map, List.length_append, List.length_cons, List.length_nil, List.length_take, List.length_drop, List.length_reverse, List.length_replicate]; omega)) only [f30, go_lookS, List.length_map, hc, ex_of hx, ↓w_nil, ↓w_cons, ↓g_comp, ↓g_comp2, ↓s_for, ↓s_while, ↓g_non, ↓g_bl, ↓g_int, ↓g_str, ↓g_v, ↓g_g, ↓g_get0, ↓g_gets, ↓g_neg, ↓g_bin, ↓g_cmp, ↓g_cmp2, ↓g_and, ↓g_or, ↓g_not, ↓g_ite, ↓g_call, ↓g_callK, ↓g_bi, ↓g_listC, ↓g_rgT, ↓g_rgL, ↓g_isi, ↓g_isiT, ↓g_tup, ↓g_lst, ↓g_ix, ↓g_sl, ↓g_rev, ↓g_app, ↓g_upper, ↓t_and, ↓t_or, ↓t_not, ↓t_ite, ↓t_bl, ↓t_cmp, ↓t_cmp2, ↓t_call, ↓t_callK, ↓t_bi, ↓t_isi, ↓t_isiT, ↓t_ix, ↓l_nil, ↓l_cons, ↓lt_nil, ↓lt_cons, ↓looks_nil, ↓looks_cons, ↓moves_nil, ↓moves_cons, ↓i_seq, ↓i_rng1, ↓i_rng2, ↓i_enum, ↓i_zip, ↓it_list, ↓it_tuple, ↓it_s, ↓gg_n, ↓gg_t, ↓gg_ix, ↓gs_nil, ↓gs_cons, ↓g_tupS, ↓g_lstS, ↓g_lstCS, ↓g_mkL, ↓g_mkC, ↓g_ixT, ↓g_ixL, ↓g_negK, ↓g_asCell, ↓p_nil, ↓p_one, ↓s_pass, ↓s_brk, ↓s_cont, ↓s_never, ↓s_expr, ↓s_ret, ↓s_retN, ↓s_asg, ↓s_par, ↓s_par3, ↓g_rgV, ↓g_rgVK, ↓g_revL, ↓g_revT, ↓s_aug, ↓s_iff, ↓b_add, ↓b_sub, ↓b_mulr, ↓b_mull, ↓b_fdiv, ↓b_mod, ↓b_addLS, ↓b_addTS, ↓q_eqI, ↓q_neI, ↓q_eqB, ↓q_neB, ↓q_lt, ↓q_le, ↓q_gt, ↓q_ge, ↓q_isN, ↓q_isB, ↓q_isnB, ↓isB_b, ↓q_isnN, ↓q_inB, ↓q_notinB, ↓f_lenT, ↓f_lenL, ↓f_int, ↓f_abs, ↓f_max2, ↓f_min2, ↓f_tupleL, ↓f_tupleT, ↓f_listL, ↓f_listT, ↓f_divmod, ↓f_all, ↓f_any, ↓f_sum, ↓a_0, ↓a_1, ↓a_2, ↓t_v, ↓go_cons, ↓go_nil, ↓go_bind, ↓go_pure, ↓go_lookM, ↓go_lookTM, ↓go_truB, ↓go_noneM, ↓go_moveM, ↓go_ite, ↓go_fin, startE, tyB, isNone, Tgs.len, Exs.len, List.map_cons, List.map_nil, List.length_cons, List.length_nil, List.cons_append, List.nil_append, List.take_length, if_true, Bool.not_false, Bool.not_true, List.set_cons_zero, List.set_cons_succ, Nat.reduceAdd, Nat.reduceSub, List.reduceReplicate, Bool.false_eq_true, if_false, reduceIte, and_self, Bool.true_eq_false, decide_true, decide_false]
    obtain ⟨ms2, hms2, hml2⟩ := cut_ints ns none (some 11)
    have hlb : (ms2.map PyData.int).length + [PyData.int own].length ≤ sizeLine := big _ (by rw [List.length_map]; show ms2.length + 1 ≤ _; omega)
    simp (maxSteps := 2000000) (disch := first | omega | assumption | (simp only [List.length_map, List.length_append, List.length_cons, List.length_nil, List.length_take, List.length_drop, List.length_reverse, List.length_replicate]; omega)) only [go_lookS, c_slL, hms2, g_lstK (xs := [_]) (big 1 (by decide)), b_addL hlb, ↓w_nil, ↓w_cons, ↓g_comp, ↓g_comp2, ↓s_for, ↓s_while, ↓g_non, ↓g_bl, ↓g_int, ↓g_str, ↓g_v, ↓g_g, ↓g_get0, ↓g_gets, ↓g_neg, ↓g_bin, ↓g_cmp, ↓g_cmp2, ↓g_and, ↓g_or, ↓g_not, ↓g_ite, ↓g_call, ↓g_callK, ↓g_bi, ↓g_listC, ↓g_rgT, ↓g_rgL, ↓g_isi, ↓g_isiT, ↓g_tup, ↓g_lst, ↓g_ix, ↓g_sl, ↓g_rev, ↓g_app, ↓g_upper, ↓t_and, ↓t_or, ↓t_not, ↓t_ite, ↓t_bl, ↓t_cmp, ↓t_cmp2, ↓t_call, ↓t_callK, ↓t_bi, ↓t_isi, ↓t_isiT, ↓t_ix, ↓l_nil, ↓l_cons, ↓lt_nil, ↓lt_cons, ↓looks_nil, ↓looks_cons, ↓moves_nil, ↓moves_cons, ↓i_seq, ↓i_rng1, ↓i_rng2, ↓i_enum, ↓i_zip, ↓it_list, ↓it_tuple, ↓it_s, ↓gg_n, ↓gg_t, ↓gg_ix, ↓gs_nil, ↓gs_cons, ↓g_tupS, ↓g_lstS, ↓g_lstCS, ↓g_mkL, ↓g_mkC, ↓g_ixT, ↓g_ixL, ↓g_negK, ↓g_asCell, ↓p_nil, ↓p_one, ↓s_pass, ↓s_brk, ↓s_cont, ↓s_never, ↓s_expr, ↓s_ret, ↓s_retN, ↓s_asg, ↓s_par, ↓s_par3, ↓g_rgV, ↓g_rgVK, ↓g_revL, ↓g_revT, ↓s_aug, ↓s_iff, ↓b_add, ↓b_sub, ↓b_mulr, ↓b_mull, ↓b_fdiv, ↓b_mod, ↓b_addLS, ↓b_addTS, ↓q_eqI, ↓q_neI, ↓q_eqB, ↓q_neB, ↓q_lt, ↓q_le, ↓q_gt, ↓q_ge, ↓q_isN, ↓q_isB, ↓q_isnB, ↓isB_b, ↓q_isnN, ↓q_inB, ↓q_notinB, ↓f_lenT, ↓f_lenL, ↓f_int, ↓f_abs, ↓f_max2, ↓f_min2, ↓f_tupleL, ↓f_tupleT, ↓f_listL, ↓f_listT, ↓f_divmod, ↓f_all, ↓f_any, ↓f_sum, ↓a_0, ↓a_1, ↓a_2, ↓t_v, ↓go_cons, ↓go_nil, ↓go_bind, ↓go_pure, ↓go_lookM, ↓go_lookTM, ↓go_truB, ↓go_noneM, ↓go_moveM, ↓go_ite, ↓go_fin, startE, tyB, isNone, Tgs.len, Exs.len, List.map_cons, List.map_nil, List.length_cons, List.length_nil, List.cons_append, List.nil_append, List.take_length, if_true, Bool.not_false, Bool.not_true, List.set_cons_zero, List.set_cons_succ, Nat.reduceAdd, Nat.reduceSub, List.reduceReplicate, Bool.false_eq_true, if_false, reduceIte, and_self, Bool.true_eq_false, decide_true, decide_false]
    refine go_forL (fun xs ρ s => ∃ (stir : Int) (x4 : Option Val), (∀ x ∈ xs, ∃ i, x = .int i) ∧ ρ = [some (.s ns), some (.d (.int lap)), some (.d (.int own)), some (.d (.int stir)), x4] ∧ s = st) ?_ ?_ _ _ _ ⟨_, none, fun x hx => ?_, rfl, rfl⟩
    · rintro x r ρ s ⟨stir, x4, hx, rfl, rfl⟩
      obtain ⟨i, rfl⟩ := hx x List.mem_cons_self
      simp (maxSteps := 2000000) (disch := first | omega | assumption | (simp only [List.length_map, List.length_append, List.length_cons, List.length_nil, List.length_take, List.length_drop, List.length_reverse, List.length_replicate]; omega)) only [↓w_nil, ↓w_cons, ↓g_comp, ↓g_comp2, ↓s_for, ↓s_while, ↓g_non, ↓g_bl, ↓g_int, ↓g_str, ↓g_v, ↓g_g, ↓g_get0, ↓g_gets, ↓g_neg, ↓g_bin, ↓g_cmp, ↓g_cmp2, ↓g_and, ↓g_or, ↓g_not, ↓g_ite, ↓g_call, ↓g_callK, ↓g_bi, ↓g_listC, ↓g_rgT, ↓g_rgL, ↓g_isi, ↓g_isiT, ↓g_tup, ↓g_lst, ↓g_ix, ↓g_sl, ↓g_rev, ↓g_app, ↓g_upper, ↓t_and, ↓t_or, ↓t_not, ↓t_ite, ↓t_bl, ↓t_cmp, ↓t_cmp2, ↓t_call, ↓t_callK, ↓t_bi, ↓t_isi, ↓t_isiT, ↓t_ix, ↓l_nil, ↓l_cons, ↓lt_nil, ↓lt_cons, ↓looks_nil, ↓looks_cons, ↓moves_nil, ↓moves_cons, ↓i_seq, ↓i_rng1, ↓i_rng2, ↓i_enum, ↓i_zip, ↓it_list, ↓it_tuple, ↓it_s, ↓gg_n, ↓gg_t, ↓gg_ix, ↓gs_nil, ↓gs_cons, ↓g_tupS, ↓g_lstS, ↓g_lstCS, ↓g_mkL, ↓g_mkC, ↓g_ixT, ↓g_ixL, ↓g_negK, ↓g_asCell, ↓p_nil, ↓p_one, ↓s_pass, ↓s_brk, ↓s_cont, ↓s_never, ↓s_expr, ↓s_ret, ↓s_retN, ↓s_asg, ↓s_par, ↓s_par3, ↓g_rgV, ↓g_rgVK, ↓g_revL, ↓g_revT, ↓s_aug, ↓s_iff, ↓b_add, ↓b_sub, ↓b_mulr, ↓b_mull, ↓b_fdiv, ↓b_mod, ↓b_addLS, ↓b_addTS, ↓q_eqI, ↓q_neI, ↓q_eqB, ↓q_neB, ↓q_lt, ↓q_le, ↓q_gt, ↓q_ge, ↓q_isN, ↓q_isB, ↓q_isnB, ↓isB_b, ↓q_isnN, ↓q_inB, ↓q_notinB, ↓f_lenT, ↓f_lenL, ↓f_int, ↓f_abs, ↓f_max2, ↓f_min2, ↓f_tupleL, ↓f_tupleT, ↓f_listL, ↓f_listT, ↓f_divmod, ↓f_all, ↓f_any, ↓f_sum, ↓a_0, ↓a_1, ↓a_2, ↓t_v, ↓go_cons, ↓go_nil, ↓go_bind, ↓go_pure, ↓go_lookM, ↓go_lookTM, ↓go_truB, ↓go_noneM, ↓go_moveM, ↓go_ite, ↓go_fin, startE, tyB, isNone, Tgs.len, Exs.len, List.map_cons, List.map_nil, List.length_cons, List.length_nil, List.cons_append, List.nil_append, List.take_length, if_true, Bool.not_false, Bool.not_true, List.set_cons_zero, List.set_cons_succ, Nat.reduceAdd, Nat.reduceSub, List.reduceReplicate, Bool.false_eq_true, if_false, reduceIte, and_self, Bool.true_eq_false, decide_true, decide_false]
      exact ⟨_, _, fun x hx' => hx x (List.mem_cons_of_mem _ hx'), rfl, trivial⟩
    · rintro ρ s ⟨stir, x4, hx, rfl, rfl⟩
      simp (maxSteps := 2000000) (disch := first | omega | assumption | (simp only [List.length_map, List.length_append, List.length_cons, List.length_nil, List.length_take, List.length_drop, List.length_reverse, List.length_replicate]; omega)) only [ex_of pow18, ↓w_nil, ↓w_cons, ↓g_comp, ↓g_comp2, ↓s_for, ↓s_while, ↓g_non, ↓g_bl, ↓g_int, ↓g_str, ↓g_v, ↓g_g, ↓g_get0, ↓g_gets, ↓g_neg, ↓g_bin, ↓g_cmp, ↓g_cmp2, ↓g_and, ↓g_or, ↓g_not, ↓g_ite, ↓g_call, ↓g_callK, ↓g_bi, ↓g_listC, ↓g_rgT, ↓g_rgL, ↓g_isi, ↓g_isiT, ↓g_tup, ↓g_lst, ↓g_ix, ↓g_sl, ↓g_rev, ↓g_app, ↓g_upper, ↓t_and, ↓t_or, ↓t_not, ↓t_ite, ↓t_bl, ↓t_cmp, ↓t_cmp2, ↓t_call, ↓t_callK, ↓t_bi, ↓t_isi, ↓t_isiT, ↓t_ix, ↓l_nil, ↓l_cons, ↓lt_nil, ↓lt_cons, ↓looks_nil, ↓looks_cons, ↓moves_nil, ↓moves_cons, ↓i_seq, ↓i_rng1, ↓i_rng2, ↓i_enum, ↓i_zip, ↓it_list, ↓it_tuple, ↓it_s, ↓gg_n, ↓gg_t, ↓gg_ix, ↓gs_nil, ↓gs_cons, ↓g_tupS, ↓g_lstS, ↓g_lstCS, ↓g_mkL, ↓g_mkC, ↓g_ixT, ↓g_ixL, ↓g_negK, ↓g_asCell, ↓p_nil, ↓p_one, ↓s_pass, ↓s_brk, ↓s_cont, ↓s_never, ↓s_expr, ↓s_ret, ↓s_retN, ↓s_asg, ↓s_par, ↓s_par3, ↓g_rgV, ↓g_rgVK, ↓g_revL, ↓g_revT, ↓s_aug, ↓s_iff, ↓b_add, ↓b_sub, ↓b_mulr, ↓b_mull, ↓b_fdiv, ↓b_mod, ↓b_addLS, ↓b_addTS, ↓q_eqI, ↓q_neI, ↓q_eqB, ↓q_neB, ↓q_lt, ↓q_le, ↓q_gt, ↓q_ge, ↓q_isN, ↓q_isB, ↓q_isnB, ↓isB_b, ↓q_isnN, ↓q_inB, ↓q_notinB, ↓f_lenT, ↓f_lenL, ↓f_int, ↓f_abs, ↓f_max2, ↓f_min2, ↓f_tupleL, ↓f_tupleT, ↓f_listL, ↓f_listT, ↓f_divmod, ↓f_all, ↓f_any, ↓f_sum, ↓a_0, ↓a_1, ↓a_2, ↓t_v, ↓go_cons, ↓go_nil, ↓go_bind, ↓go_pure, ↓go_lookM, ↓go_lookTM, ↓go_truB, ↓go_noneM, ↓go_moveM, ↓go_ite, ↓go_fin, startE, tyB, isNone, Tgs.len, Exs.len, List.map_cons, List.map_nil, List.length_cons, List.length_nil, List.cons_append, List.nil_append, List.take_length, if_true, Bool.not_false, Bool.not_true, List.set_cons_zero, List.set_cons_succ, Nat.reduceAdd, Nat.reduceSub, List.reduceReplicate, Bool.false_eq_true, if_false, reduceIte, and_self, Bool.true_eq_false, decide_true, decide_false]
      by_cases h1 : own < 0
      · simp (maxSteps := 2000000) (disch := first | omega | assumption | (simp only [List.length_map, List.length_append, List.length_cons, List.length_nil, List.length_take, List.length_drop, List.length_reverse, List.length_replicate]; omega)) only [h1, g_lstC (xs := [_, _, _]) (big 3 (by decide)), go_finC, ↓w_nil, ↓w_cons, ↓g_comp, ↓g_comp2, ↓s_for, ↓s_while, ↓g_non, ↓g_bl, ↓g_int, ↓g_str, ↓g_v, ↓g_g, ↓g_get0, ↓g_gets, ↓g_neg, ↓g_bin, ↓g_cmp, ↓g_cmp2, ↓g_and, ↓g_or, ↓g_not, ↓g_ite, ↓g_call, ↓g_callK, ↓g_bi, ↓g_listC, ↓g_rgT, ↓g_rgL, ↓g_isi, ↓g_isiT, ↓g_tup, ↓g_lst, ↓g_ix, ↓g_sl, ↓g_rev, ↓g_app, ↓g_upper, ↓t_and, ↓t_or, ↓t_not, ↓t_ite, ↓t_bl, ↓t_cmp, ↓t_cmp2, ↓t_call, ↓t_callK, ↓t_bi, ↓t_isi, ↓t_isiT, ↓t_ix, ↓l_nil, ↓l_cons, ↓lt_nil, ↓lt_cons, ↓looks_nil, ↓looks_cons, ↓moves_nil, ↓moves_cons, ↓i_seq, ↓i_rng1, ↓i_rng2, ↓i_enum, ↓i_zip, ↓it_list, ↓it_tuple, ↓it_s, ↓gg_n, ↓gg_t, ↓gg_ix, ↓gs_nil, ↓gs_cons, ↓g_tupS, ↓g_lstS, ↓g_lstCS, ↓g_mkL, ↓g_mkC, ↓g_ixT, ↓g_ixL, ↓g_negK, ↓g_asCell, ↓p_nil, ↓p_one, ↓s_pass, ↓s_brk, ↓s_cont, ↓s_never, ↓s_expr, ↓s_ret, ↓s_retN, ↓s_asg, ↓s_par, ↓s_par3, ↓g_rgV, ↓g_rgVK, ↓g_revL, ↓g_revT, ↓s_aug, ↓s_iff, ↓b_add, ↓b_sub, ↓b_mulr, ↓b_mull, ↓b_fdiv, ↓b_mod, ↓b_addLS, ↓b_addTS, ↓q_eqI, ↓q_neI, ↓q_eqB, ↓q_neB, ↓q_lt, ↓q_le, ↓q_gt, ↓q_ge, ↓q_isN, ↓q_isB, ↓q_isnB, ↓isB_b, ↓q_isnN, ↓q_inB, ↓q_notinB, ↓f_lenT, ↓f_lenL, ↓f_int, ↓f_abs, ↓f_max2, ↓f_min2, ↓f_tupleL, ↓f_tupleT, ↓f_listL, ↓f_listT, ↓f_divmod, ↓f_all, ↓f_any, ↓f_sum, ↓a_0, ↓a_1, ↓a_2, ↓t_v, ↓go_cons, ↓go_nil, ↓go_bind, ↓go_pure, ↓go_lookM, ↓go_lookTM, ↓go_truB, ↓go_noneM, ↓go_moveM, ↓go_ite, ↓go_fin, startE, tyB, isNone, Tgs.len, Exs.len, List.map_cons, List.map_nil, List.length_cons, List.length_nil, List.cons_append, List.nil_append, List.take_length, if_true, Bool.not_false, Bool.not_true, List.set_cons_zero, List.set_cons_succ, Nat.reduceAdd, Nat.reduceSub, List.reduceReplicate, Bool.false_eq_true, if_false, reduceIte, and_self, Bool.true_eq_false, decide_true, decide_false]
        exact hq _ _ _
      · by_cases h2 : 1000000000000000000 ≤ own
        · simp (maxSteps := 2000000) (disch := first | omega | assumption | (simp only [List.length_map, List.length_append, List.length_cons, List.length_nil, List.length_take, List.length_drop, List.length_reverse, List.length_replicate]; omega)) only [h1, h2, g_lstC (xs := [_, _, _]) (big 3 (by decide)), go_finC, ↓w_nil, ↓w_cons, ↓g_comp, ↓g_comp2, ↓s_for, ↓s_while, ↓g_non, ↓g_bl, ↓g_int, ↓g_str, ↓g_v, ↓g_g, ↓g_get0, ↓g_gets, ↓g_neg, ↓g_bin, ↓g_cmp, ↓g_cmp2, ↓g_and, ↓g_or, ↓g_not, ↓g_ite, ↓g_call, ↓g_callK, ↓g_bi, ↓g_listC, ↓g_rgT, ↓g_rgL, ↓g_isi, ↓g_isiT, ↓g_tup, ↓g_lst, ↓g_ix, ↓g_sl, ↓g_rev, ↓g_app, ↓g_upper, ↓t_and, ↓t_or, ↓t_not, ↓t_ite, ↓t_bl, ↓t_cmp, ↓t_cmp2, ↓t_call, ↓t_callK, ↓t_bi, ↓t_isi, ↓t_isiT, ↓t_ix, ↓l_nil, ↓l_cons, ↓lt_nil, ↓lt_cons, ↓looks_nil, ↓looks_cons, ↓moves_nil, ↓moves_cons, ↓i_seq, ↓i_rng1, ↓i_rng2, ↓i_enum, ↓i_zip, ↓it_list, ↓it_tuple, ↓it_s, ↓gg_n, ↓gg_t, ↓gg_ix, ↓gs_nil, ↓gs_cons, ↓g_tupS, ↓g_lstS, ↓g_lstCS, ↓g_mkL, ↓g_mkC, ↓g_ixT, ↓g_ixL, ↓g_negK, ↓g_asCell, ↓p_nil, ↓p_one, ↓s_pass, ↓s_brk, ↓s_cont, ↓s_never, ↓s_expr, ↓s_ret, ↓s_retN, ↓s_asg, ↓s_par, ↓s_par3, ↓g_rgV, ↓g_rgVK, ↓g_revL, ↓g_revT, ↓s_aug, ↓s_iff, ↓b_add, ↓b_sub, ↓b_mulr, ↓b_mull, ↓b_fdiv, ↓b_mod, ↓b_addLS, ↓b_addTS, ↓q_eqI, ↓q_neI, ↓q_eqB, ↓q_neB, ↓q_lt, ↓q_le, ↓q_gt, ↓q_ge, ↓q_isN, ↓q_isB, ↓q_isnB, ↓isB_b, ↓q_isnN, ↓q_inB, ↓q_notinB, ↓f_lenT, ↓f_lenL, ↓f_int, ↓f_abs, ↓f_max2, ↓f_min2, ↓f_tupleL, ↓f_tupleT, ↓f_listL, ↓f_listT, ↓f_divmod, ↓f_all, ↓f_any, ↓f_sum, ↓a_0, ↓a_1, ↓a_2, ↓t_v, ↓go_cons, ↓go_nil, ↓go_bind, ↓go_pure, ↓go_lookM, ↓go_lookTM, ↓go_truB, ↓go_noneM, ↓go_moveM, ↓go_ite, ↓go_fin, startE, tyB, isNone, Tgs.len, Exs.len, List.map_cons, List.map_nil, List.length_cons, List.length_nil, List.cons_append, List.nil_append, List.take_length, if_true, Bool.not_false, Bool.not_true, List.set_cons_zero, List.set_cons_succ, Nat.reduceAdd, Nat.reduceSub, List.reduceReplicate, Bool.false_eq_true, if_false, reduceIte, and_self, Bool.true_eq_false, decide_true, decide_false]
          exact hq _ _ _
        · simp (maxSteps := 2000000) (disch := first | omega | assumption | (simp only [List.length_map, List.length_append, List.length_cons, List.length_nil, List.length_take, List.length_drop, List.length_reverse, List.length_replicate]; omega)) only [h1, h2, g_lstC (xs := [_, _, _]) (big 3 (by decide)), go_finC, ↓w_nil, ↓w_cons, ↓g_comp, ↓g_comp2, ↓s_for, ↓s_while, ↓g_non, ↓g_bl, ↓g_int, ↓g_str, ↓g_v, ↓g_g, ↓g_get0, ↓g_gets, ↓g_neg, ↓g_bin, ↓g_cmp, ↓g_cmp2, ↓g_and, ↓g_or, ↓g_not, ↓g_ite, ↓g_call, ↓g_callK, ↓g_bi, ↓g_listC, ↓g_rgT, ↓g_rgL, ↓g_isi, ↓g_isiT, ↓g_tup, ↓g_lst, ↓g_ix, ↓g_sl, ↓g_rev, ↓g_app, ↓g_upper, ↓t_and, ↓t_or, ↓t_not, ↓t_ite, ↓t_bl, ↓t_cmp, ↓t_cmp2, ↓t_call, ↓t_callK, ↓t_bi, ↓t_isi, ↓t_isiT, ↓t_ix, ↓l_nil, ↓l_cons, ↓lt_nil, ↓lt_cons, ↓looks_nil, ↓looks_cons, ↓moves_nil, ↓moves_cons, ↓i_seq, ↓i_rng1, ↓i_rng2, ↓i_enum, ↓i_zip, ↓it_list, ↓it_tuple, ↓it_s, ↓gg_n, ↓gg_t, ↓gg_ix, ↓gs_nil, ↓gs_cons, ↓g_tupS, ↓g_lstS, ↓g_lstCS, ↓g_mkL, ↓g_mkC, ↓g_ixT, ↓g_ixL, ↓g_negK, ↓g_asCell, ↓p_nil, ↓p_one, ↓s_pass, ↓s_brk, ↓s_cont, ↓s_never, ↓s_expr, ↓s_ret, ↓s_retN, ↓s_asg, ↓s_par, ↓s_par3, ↓g_rgV, ↓g_rgVK, ↓g_revL, ↓g_revT, ↓s_aug, ↓s_iff, ↓b_add, ↓b_sub, ↓b_mulr, ↓b_mull, ↓b_fdiv, ↓b_mod, ↓b_addLS, ↓b_addTS, ↓q_eqI, ↓q_neI, ↓q_eqB, ↓q_neB, ↓q_lt, ↓q_le, ↓q_gt, ↓q_ge, ↓q_isN, ↓q_isB, ↓q_isnB, ↓isB_b, ↓q_isnN, ↓q_inB, ↓q_notinB, ↓f_lenT, ↓f_lenL, ↓f_int, ↓f_abs, ↓f_max2, ↓f_min2, ↓f_tupleL, ↓f_tupleT, ↓f_listL, ↓f_listT, ↓f_divmod, ↓f_all, ↓f_any, ↓f_sum, ↓a_0, ↓a_1, ↓a_2, ↓t_v, ↓go_cons, ↓go_nil, ↓go_bind, ↓go_pure, ↓go_lookM, ↓go_lookTM, ↓go_truB, ↓go_noneM, ↓go_moveM, ↓go_ite, ↓go_fin, startE, tyB, isNone, Tgs.len, Exs.len, List.map_cons, List.map_nil, List.length_cons, List.length_nil, List.cons_append, List.nil_append, List.take_length, if_true, Bool.not_false, Bool.not_true, List.set_cons_zero, List.set_cons_succ, Nat.reduceAdd, Nat.reduceSub, List.reduceReplicate, Bool.false_eq_true, if_false, reduceIte, and_self, Bool.true_eq_false, decide_true, decide_false]
          exact hq _ _ _
    · rcases List.mem_append.mp hx with hx | hx
      · obtain ⟨i, _, rfl⟩ := List.mem_map.mp hx; exact ⟨i, rfl⟩
      · exact ⟨own, List.mem_singleton.mp hx⟩
  · simp (maxSteps := 2000000) (disch := first | omega | assumption | (simp only [List.length_map, List.length_append, List.length_cons, List.length_nil, List.length_take, List.length_drop, List.length_reverse, List.length_replicate]; omega)) only [f30, go_lookS, c_slL, hms, List.length_map, hc, f_sum, ↓w_nil, ↓w_cons, ↓g_comp, ↓g_comp2, ↓s_for, ↓s_while, ↓g_non, ↓g_bl, ↓g_int, ↓g_str, ↓g_v, ↓g_g, ↓g_get0, ↓g_gets, ↓g_neg, ↓g_bin, ↓g_cmp, ↓g_cmp2, ↓g_and, ↓g_or, ↓g_not, ↓g_ite, ↓g_call, ↓g_callK, ↓g_bi, ↓g_listC, ↓g_rgT, ↓g_rgL, ↓g_isi, ↓g_isiT, ↓g_tup, ↓g_lst, ↓g_ix, ↓g_sl, ↓g_rev, ↓g_app, ↓g_upper, ↓t_and, ↓t_or, ↓t_not, ↓t_ite, ↓t_bl, ↓t_cmp, ↓t_cmp2, ↓t_call, ↓t_callK, ↓t_bi, ↓t_isi, ↓t_isiT, ↓t_ix, ↓l_nil, ↓l_cons, ↓lt_nil, ↓lt_cons, ↓looks_nil, ↓looks_cons, ↓moves_nil, ↓moves_cons, ↓i_seq, ↓i_rng1, ↓i_rng2, ↓i_enum, ↓i_zip, ↓it_list, ↓it_tuple, ↓it_s, ↓gg_n, ↓gg_t, ↓gg_ix, ↓gs_nil, ↓gs_cons, ↓g_tupS, ↓g_lstS, ↓g_lstCS, ↓g_mkL, ↓g_mkC, ↓g_ixT, ↓g_ixL, ↓g_negK, ↓g_asCell, ↓p_nil, ↓p_one, ↓s_pass, ↓s_brk, ↓s_cont, ↓s_never, ↓s_expr, ↓s_ret, ↓s_retN, ↓s_asg, ↓s_par, ↓s_par3, ↓g_rgV, ↓g_rgVK, ↓g_revL, ↓g_revT, ↓s_aug, ↓s_iff, ↓b_add, ↓b_sub, ↓b_mulr, ↓b_mull, ↓b_fdiv, ↓b_mod, ↓b_addLS, ↓b_addTS, ↓q_eqI, ↓q_neI, ↓q_eqB, ↓q_neB, ↓q_lt, ↓q_le, ↓q_gt, ↓q_ge, ↓q_isN, ↓q_isB, ↓q_isnB, ↓isB_b, ↓q_isnN, ↓q_inB, ↓q_notinB, ↓f_lenT, ↓f_lenL, ↓f_int, ↓f_abs, ↓f_max2, ↓f_min2, ↓f_tupleL, ↓f_tupleT, ↓f_listL, ↓f_listT, ↓f_divmod, ↓f_all, ↓f_any, ↓f_sum, ↓a_0, ↓a_1, ↓a_2, ↓t_v, ↓go_cons, ↓go_nil, ↓go_bind, ↓go_pure, ↓go_lookM, ↓go_lookTM, ↓go_truB, ↓go_noneM, ↓go_moveM, ↓go_ite, ↓go_fin, startE, tyB, isNone, Tgs.len, Exs.len, List.map_cons, List.map_nil, List.length_cons, List.length_nil, List.cons_append, List.nil_append, List.take_length, if_true, Bool.not_false, Bool.not_true, List.set_cons_zero, List.set_cons_succ, Nat.reduceAdd, Nat.reduceSub, List.reduceReplicate, Bool.false_eq_true, if_false, reduceIte, and_self, Bool.true_eq_false, decide_true, decide_false]
    generalize 8513 * lap + 409 + ms.sum % 999769 = own
    obtain ⟨ms2, hms2, hml2⟩ := cut_ints ns none (some 11)
    have hlb : (ms2.map PyData.int).length + [PyData.int own].length ≤ sizeLine := big _ (by rw [List.length_map]; show ms2.length + 1 ≤ _; omega)
    simp (maxSteps := 2000000) (disch := first | omega | assumption | (simp only [List.length_map, List.length_append, List.length_cons, List.length_nil, List.length_take, List.length_drop, List.length_reverse, List.length_replicate]; omega)) only [go_lookS, c_slL, hms2, g_lstK (xs := [_]) (big 1 (by decide)), b_addL hlb, ↓w_nil, ↓w_cons, ↓g_comp, ↓g_comp2, ↓s_for, ↓s_while, ↓g_non, ↓g_bl, ↓g_int, ↓g_str, ↓g_v, ↓g_g, ↓g_get0, ↓g_gets, ↓g_neg, ↓g_bin, ↓g_cmp, ↓g_cmp2, ↓g_and, ↓g_or, ↓g_not, ↓g_ite, ↓g_call, ↓g_callK, ↓g_bi, ↓g_listC, ↓g_rgT, ↓g_rgL, ↓g_isi, ↓g_isiT, ↓g_tup, ↓g_lst, ↓g_ix, ↓g_sl, ↓g_rev, ↓g_app, ↓g_upper, ↓t_and, ↓t_or, ↓t_not, ↓t_ite, ↓t_bl, ↓t_cmp, ↓t_cmp2, ↓t_call, ↓t_callK, ↓t_bi, ↓t_isi, ↓t_isiT, ↓t_ix, ↓l_nil, ↓l_cons, ↓lt_nil, ↓lt_cons, ↓looks_nil, ↓looks_cons, ↓moves_nil, ↓moves_cons, ↓i_seq, ↓i_rng1, ↓i_rng2, ↓i_enum, ↓i_zip, ↓it_list, ↓it_tuple, ↓it_s, ↓gg_n, ↓gg_t, ↓gg_ix, ↓gs_nil, ↓gs_cons, ↓g_tupS, ↓g_lstS, ↓g_lstCS, ↓g_mkL, ↓g_mkC, ↓g_ixT, ↓g_ixL, ↓g_negK, ↓g_asCell, ↓p_nil, ↓p_one, ↓s_pass, ↓s_brk, ↓s_cont, ↓s_never, ↓s_expr, ↓s_ret, ↓s_retN, ↓s_asg, ↓s_par, ↓s_par3, ↓g_rgV, ↓g_rgVK, ↓g_revL, ↓g_revT, ↓s_aug, ↓s_iff, ↓b_add, ↓b_sub, ↓b_mulr, ↓b_mull, ↓b_fdiv, ↓b_mod, ↓b_addLS, ↓b_addTS, ↓q_eqI, ↓q_neI, ↓q_eqB, ↓q_neB, ↓q_lt, ↓q_le, ↓q_gt, ↓q_ge, ↓q_isN, ↓q_isB, ↓q_isnB, ↓isB_b, ↓q_isnN, ↓q_inB, ↓q_notinB, ↓f_lenT, ↓f_lenL, ↓f_int, ↓f_abs, ↓f_max2, ↓f_min2, ↓f_tupleL, ↓f_tupleT, ↓f_listL, ↓f_listT, ↓f_divmod, ↓f_all, ↓f_any, ↓f_sum, ↓a_0, ↓a_1, ↓a_2, ↓t_v, ↓go_cons, ↓go_nil, ↓go_bind, ↓go_pure, ↓go_lookM, ↓go_lookTM, ↓go_truB, ↓go_noneM, ↓go_moveM, ↓go_ite, ↓go_fin, startE, tyB, isNone, Tgs.len, Exs.len, List.map_cons, List.map_nil, List.length_cons, List.length_nil, List.cons_append, List.nil_append, List.take_length, if_true, Bool.not_false, Bool.not_true, List.set_cons_zero, List.set_cons_succ, Nat.reduceAdd, Nat.reduceSub, List.reduceReplicate, Bool.false_eq_true, if_false, reduceIte, and_self, Bool.true_eq_false, decide_true, decide_false]
    refine go_forL (fun xs ρ s => ∃ (stir : Int) (x4 : Option Val), (∀ x ∈ xs, ∃ i, x = .int i) ∧ ρ = [some (.s ns), some (.d (.int lap)), some (.d (.int own)), some (.d (.int stir)), x4] ∧ s = st) ?_ ?_ _ _ _ ⟨_, none, fun x hx => ?_, rfl, rfl⟩
    · rintro x r ρ s ⟨stir, x4, hx, rfl, rfl⟩
      obtain ⟨i, rfl⟩ := hx x List.mem_cons_self
      simp (maxSteps := 2000000) (disch := first | omega | assumption | (simp only [List.length_map, List.length_append, List.length_cons, List.length_nil, List.length_take, List.length_drop, List.length_reverse, List.length_replicate]; omega)) only [↓w_nil, ↓w_cons, ↓g_comp, ↓g_comp2, ↓s_for, ↓s_while, ↓g_non, ↓g_bl, ↓g_int, ↓g_str, ↓g_v, ↓g_g, ↓g_get0, ↓g_gets, ↓g_neg, ↓g_bin, ↓g_cmp, ↓g_cmp2, ↓g_and, ↓g_or, ↓g_not, ↓g_ite, ↓g_call, ↓g_callK, ↓g_bi, ↓g_listC, ↓g_rgT, ↓g_rgL, ↓g_isi, ↓g_isiT, ↓g_tup, ↓g_lst, ↓g_ix, ↓g_sl, ↓g_rev, ↓g_app, ↓g_upper, ↓t_and, ↓t_or, ↓t_not, ↓t_ite, ↓t_bl, ↓t_cmp, ↓t_cmp2, ↓t_call, ↓t_callK, ↓t_bi, ↓t_isi, ↓t_isiT, ↓t_ix, ↓l_nil, ↓l_cons, ↓lt_nil, ↓lt_cons, ↓looks_nil, ↓looks_cons, ↓moves_nil, ↓moves_cons, ↓i_seq, ↓i_rng1, ↓i_rng2, ↓i_enum, ↓i_zip, ↓it_list, ↓it_tuple, ↓it_s, ↓gg_n, ↓gg_t, ↓gg_ix, ↓gs_nil, ↓gs_cons, ↓g_tupS, ↓g_lstS, ↓g_lstCS, ↓g_mkL, ↓g_mkC, ↓g_ixT, ↓g_ixL, ↓g_negK, ↓g_asCell, ↓p_nil, ↓p_one, ↓s_pass, ↓s_brk, ↓s_cont, ↓s_never, ↓s_expr, ↓s_ret, ↓s_retN, ↓s_asg, ↓s_par, ↓s_par3, ↓g_rgV, ↓g_rgVK, ↓g_revL, ↓g_revT, ↓s_aug, ↓s_iff, ↓b_add, ↓b_sub, ↓b_mulr, ↓b_mull, ↓b_fdiv, ↓b_mod, ↓b_addLS, ↓b_addTS, ↓q_eqI, ↓q_neI, ↓q_eqB, ↓q_neB, ↓q_lt, ↓q_le, ↓q_gt, ↓q_ge, ↓q_isN, ↓q_isB, ↓q_isnB, ↓isB_b, ↓q_isnN, ↓q_inB, ↓q_notinB, ↓f_lenT, ↓f_lenL, ↓f_int, ↓f_abs, ↓f_max2, ↓f_min2, ↓f_tupleL, ↓f_tupleT, ↓f_listL, ↓f_listT, ↓f_divmod, ↓f_all, ↓f_any, ↓f_sum, ↓a_0, ↓a_1, ↓a_2, ↓t_v, ↓go_cons, ↓go_nil, ↓go_bind, ↓go_pure, ↓go_lookM, ↓go_lookTM, ↓go_truB, ↓go_noneM, ↓go_moveM, ↓go_ite, ↓go_fin, startE, tyB, isNone, Tgs.len, Exs.len, List.map_cons, List.map_nil, List.length_cons, List.length_nil, List.cons_append, List.nil_append, List.take_length, if_true, Bool.not_false, Bool.not_true, List.set_cons_zero, List.set_cons_succ, Nat.reduceAdd, Nat.reduceSub, List.reduceReplicate, Bool.false_eq_true, if_false, reduceIte, and_self, Bool.true_eq_false, decide_true, decide_false]
      exact ⟨_, _, fun x hx' => hx x (List.mem_cons_of_mem _ hx'), rfl, trivial⟩
    · rintro ρ s ⟨stir, x4, hx, rfl, rfl⟩
      simp (maxSteps := 2000000) (disch := first | omega | assumption | (simp only [List.length_map, List.length_append, List.length_cons, List.length_nil, List.length_take, List.length_drop, List.length_reverse, List.length_replicate]; omega)) only [ex_of pow18, ↓w_nil, ↓w_cons, ↓g_comp, ↓g_comp2, ↓s_for, ↓s_while, ↓g_non, ↓g_bl, ↓g_int, ↓g_str, ↓g_v, ↓g_g, ↓g_get0, ↓g_gets, ↓g_neg, ↓g_bin, ↓g_cmp, ↓g_cmp2, ↓g_and, ↓g_or, ↓g_not, ↓g_ite, ↓g_call, ↓g_callK, ↓g_bi, ↓g_listC, ↓g_rgT, ↓g_rgL, ↓g_isi, ↓g_isiT, ↓g_tup, ↓g_lst, ↓g_ix, ↓g_sl, ↓g_rev, ↓g_app, ↓g_upper, ↓t_and, ↓t_or, ↓t_not, ↓t_ite, ↓t_bl, ↓t_cmp, ↓t_cmp2, ↓t_call, ↓t_callK, ↓t_bi, ↓t_isi, ↓t_isiT, ↓t_ix, ↓l_nil, ↓l_cons, ↓lt_nil, ↓lt_cons, ↓looks_nil, ↓looks_cons, ↓moves_nil, ↓moves_cons, ↓i_seq, ↓i_rng1, ↓i_rng2, ↓i_enum, ↓i_zip, ↓it_list, ↓it_tuple, ↓it_s, ↓gg_n, ↓gg_t, ↓gg_ix, ↓gs_nil, ↓gs_cons, ↓g_tupS, ↓g_lstS, ↓g_lstCS, ↓g_mkL, ↓g_mkC, ↓g_ixT, ↓g_ixL, ↓g_negK, ↓g_asCell, ↓p_nil, ↓p_one, ↓s_pass, ↓s_brk, ↓s_cont, ↓s_never, ↓s_expr, ↓s_ret, ↓s_retN, ↓s_asg, ↓s_par, ↓s_par3, ↓g_rgV, ↓g_rgVK, ↓g_revL, ↓g_revT, ↓s_aug, ↓s_iff, ↓b_add, ↓b_sub, ↓b_mulr, ↓b_mull, ↓b_fdiv, ↓b_mod, ↓b_addLS, ↓b_addTS, ↓q_eqI, ↓q_neI, ↓q_eqB, ↓q_neB, ↓q_lt, ↓q_le, ↓q_gt, ↓q_ge, ↓q_isN, ↓q_isB, ↓q_isnB, ↓isB_b, ↓q_isnN, ↓q_inB, ↓q_notinB, ↓f_lenT, ↓f_lenL, ↓f_int, ↓f_abs, ↓f_max2, ↓f_min2, ↓f_tupleL, ↓f_tupleT, ↓f_listL, ↓f_listT, ↓f_divmod, ↓f_all, ↓f_any, ↓f_sum, ↓a_0, ↓a_1, ↓a_2, ↓t_v, ↓go_cons, ↓go_nil, ↓go_bind, ↓go_pure, ↓go_lookM, ↓go_lookTM, ↓go_truB, ↓go_noneM, ↓go_moveM, ↓go_ite, ↓go_fin, startE, tyB, isNone, Tgs.len, Exs.len, List.map_cons, List.map_nil, List.length_cons, List.length_nil, List.cons_append, List.nil_append, List.take_length, if_true, Bool.not_false, Bool.not_true, List.set_cons_zero, List.set_cons_succ, Nat.reduceAdd, Nat.reduceSub, List.reduceReplicate, Bool.false_eq_true, if_false, reduceIte, and_self, Bool.true_eq_false, decide_true, decide_false]
      by_cases h1 : own < 0
      · simp (maxSteps := 2000000) (disch := first | omega | assumption | (simp only [List.length_map, List.length_append, List.length_cons, List.length_nil, List.length_take, List.length_drop, List.length_reverse, List.length_replicate]; omega)) only [h1, g_lstC (xs := [_, _, _]) (big 3 (by decide)), go_finC, ↓w_nil, ↓w_cons, ↓g_comp, ↓g_comp2, ↓s_for, ↓s_while, ↓g_non, ↓g_bl, ↓g_int, ↓g_str, ↓g_v, ↓g_g, ↓g_get0, ↓g_gets, ↓g_neg, ↓g_bin, ↓g_cmp, ↓g_cmp2, ↓g_and, ↓g_or, ↓g_not, ↓g_ite, ↓g_call, ↓g_callK, ↓g_bi, ↓g_listC, ↓g_rgT, ↓g_rgL, ↓g_isi, ↓g_isiT, ↓g_tup, ↓g_lst, ↓g_ix, ↓g_sl, ↓g_rev, ↓g_app, ↓g_upper, ↓t_and, ↓t_or, ↓t_not, ↓t_ite, ↓t_bl, ↓t_cmp, ↓t_cmp2, ↓t_call, ↓t_callK, ↓t_bi, ↓t_isi, ↓t_isiT, ↓t_ix, ↓l_nil, ↓l_cons, ↓lt_nil, ↓lt_cons, ↓looks_nil, ↓looks_cons, ↓moves_nil, ↓moves_cons, ↓i_seq, ↓i_rng1, ↓i_rng2, ↓i_enum, ↓i_zip, ↓it_list, ↓it_tuple, ↓it_s, ↓gg_n, ↓gg_t, ↓gg_ix, ↓gs_nil, ↓gs_cons, ↓g_tupS, ↓g_lstS, ↓g_lstCS, ↓g_mkL, ↓g_mkC, ↓g_ixT, ↓g_ixL, ↓g_negK, ↓g_asCell, ↓p_nil, ↓p_one, ↓s_pass, ↓s_brk, ↓s_cont, ↓s_never, ↓s_expr, ↓s_ret, ↓s_retN, ↓s_asg, ↓s_par, ↓s_par3, ↓g_rgV, ↓g_rgVK, ↓g_revL, ↓g_revT, ↓s_aug, ↓s_iff, ↓b_add, ↓b_sub, ↓b_mulr, ↓b_mull, ↓b_fdiv, ↓b_mod, ↓b_addLS, ↓b_addTS, ↓q_eqI, ↓q_neI, ↓q_eqB, ↓q_neB, ↓q_lt, ↓q_le, ↓q_gt, ↓q_ge, ↓q_isN, ↓q_isB, ↓q_isnB, ↓isB_b, ↓q_isnN, ↓q_inB, ↓q_notinB, ↓f_lenT, ↓f_lenL, ↓f_int, ↓f_abs, ↓f_max2, ↓f_min2, ↓f_tupleL, ↓f_tupleT, ↓f_listL, ↓f_listT, ↓f_divmod, ↓f_all, ↓f_any, ↓f_sum, ↓a_0, ↓a_1, ↓a_2, ↓t_v, ↓go_cons, ↓go_nil, ↓go_bind, ↓go_pure, ↓go_lookM, ↓go_lookTM, ↓go_truB, ↓go_noneM, ↓go_moveM, ↓go_ite, ↓go_fin, startE, tyB, isNone, Tgs.len, Exs.len, List.map_cons, List.map_nil, List.length_cons, List.length_nil, List.cons_append, List.nil_append, List.take_length, if_true, Bool.not_false, Bool.not_true, List.set_cons_zero, List.set_cons_succ, Nat.reduceAdd, Nat.reduceSub, List.reduceReplicate, Bool.false_eq_true, if_false, reduceIte, and_self, Bool.true_eq_false, decide_true, decide_false]
        exact hq _ _ _
      · by_cases h2 : 1000000000000000000 ≤ own
        · simp (maxSteps := 2000000) (disch := first | omega | assumption | (simp only [List.length_map, List.length_append, List.length_cons, List.length_nil, List.length_take, List.length_drop, List.length_reverse, List.length_replicate]; omega)) only [h1, h2, g_lstC (xs := [_, _, _]) (big 3 (by decide)), go_finC, ↓w_nil, ↓w_cons, ↓g_comp, ↓g_comp2, ↓s_for, ↓s_while, ↓g_non, ↓g_bl, ↓g_int, ↓g_str, ↓g_v, ↓g_g, ↓g_get0, ↓g_gets, ↓g_neg, ↓g_bin, ↓g_cmp, ↓g_cmp2, ↓g_and, ↓g_or, ↓g_not, ↓g_ite, ↓g_call, ↓g_callK, ↓g_bi, ↓g_listC, ↓g_rgT, ↓g_rgL, ↓g_isi, ↓g_isiT, ↓g_tup, ↓g_lst, ↓g_ix, ↓g_sl, ↓g_rev, ↓g_app, ↓g_upper, ↓t_and, ↓t_or, ↓t_not, ↓t_ite, ↓t_bl, ↓t_cmp, ↓t_cmp2, ↓t_call, ↓t_callK, ↓t_bi, ↓t_isi, ↓t_isiT, ↓t_ix, ↓l_nil, ↓l_cons, ↓lt_nil, ↓lt_cons, ↓looks_nil, ↓looks_cons, ↓moves_nil, ↓moves_cons, ↓i_seq, ↓i_rng1, ↓i_rng2, ↓i_enum, ↓i_zip, ↓it_list, ↓it_tuple, ↓it_s, ↓gg_n, ↓gg_t, ↓gg_ix, ↓gs_nil, ↓gs_cons, ↓g_tupS, ↓g_lstS, ↓g_lstCS, ↓g_mkL, ↓g_mkC, ↓g_ixT, ↓g_ixL, ↓g_negK, ↓g_asCell, ↓p_nil, ↓p_one, ↓s_pass, ↓s_brk, ↓s_cont, ↓s_never, ↓s_expr, ↓s_ret, ↓s_retN, ↓s_asg, ↓s_par, ↓s_par3, ↓g_rgV, ↓g_rgVK, ↓g_revL, ↓g_revT, ↓s_aug, ↓s_iff, ↓b_add, ↓b_sub, ↓b_mulr, ↓b_mull, ↓b_fdiv, ↓b_mod, ↓b_addLS, ↓b_addTS, ↓q_eqI, ↓q_neI, ↓q_eqB, ↓q_neB, ↓q_lt, ↓q_le, ↓q_gt, ↓q_ge, ↓q_isN, ↓q_isB, ↓q_isnB, ↓isB_b, ↓q_isnN, ↓q_inB, ↓q_notinB, ↓f_lenT, ↓f_lenL, ↓f_int, ↓f_abs, ↓f_max2, ↓f_min2, ↓f_tupleL, ↓f_tupleT, ↓f_listL, ↓f_listT, ↓f_divmod, ↓f_all, ↓f_any, ↓f_sum, ↓a_0, ↓a_1, ↓a_2, ↓t_v, ↓go_cons, ↓go_nil, ↓go_bind, ↓go_pure, ↓go_lookM, ↓go_lookTM, ↓go_truB, ↓go_noneM, ↓go_moveM, ↓go_ite, ↓go_fin, startE, tyB, isNone, Tgs.len, Exs.len, List.map_cons, List.map_nil, List.length_cons, List.length_nil, List.cons_append, List.nil_append, List.take_length, if_true, Bool.not_false, Bool.not_true, List.set_cons_zero, List.set_cons_succ, Nat.reduceAdd, Nat.reduceSub, List.reduceReplicate, Bool.false_eq_true, if_false, reduceIte, and_self, Bool.true_eq_false, decide_true, decide_false]
          exact hq _ _ _
        · simp (maxSteps := 2000000) (disch := first | omega | assumption | (simp only [List.length_map, List.length_append, List.length_cons, List.length_nil, List.length_take, List.length_drop, List.length_reverse, List.length_replicate]; omega)) only [h1, h2, g_lstC (xs := [_, _, _]) (big 3 (by decide)), go_finC, ↓w_nil, ↓w_cons, ↓g_comp, ↓g_comp2, ↓s_for, ↓s_while, ↓g_non, ↓g_bl, ↓g_int, ↓g_str, ↓g_v, ↓g_g, ↓g_get0, ↓g_gets, ↓g_neg, ↓g_bin, ↓g_cmp, ↓g_cmp2, ↓g_and, ↓g_or, ↓g_not, ↓g_ite, ↓g_call, ↓g_callK, ↓g_bi, ↓g_listC, ↓g_rgT, ↓g_rgL, ↓g_isi, ↓g_isiT, ↓g_tup, ↓g_lst, ↓g_ix, ↓g_sl, ↓g_rev, ↓g_app, ↓g_upper, ↓t_and, ↓t_or, ↓t_not, ↓t_ite, ↓t_bl, ↓t_cmp, ↓t_cmp2, ↓t_call, ↓t_callK, ↓t_bi, ↓t_isi, ↓t_isiT, ↓t_ix, ↓l_nil, ↓l_cons, ↓lt_nil, ↓lt_cons, ↓looks_nil, ↓looks_cons, ↓moves_nil, ↓moves_cons, ↓i_seq, ↓i_rng1, ↓i_rng2, ↓i_enum, ↓i_zip, ↓it_list, ↓it_tuple, ↓it_s, ↓gg_n, ↓gg_t, ↓gg_ix, ↓gs_nil, ↓gs_cons, ↓g_tupS, ↓g_lstS, ↓g_lstCS, ↓g_mkL, ↓g_mkC, ↓g_ixT, ↓g_ixL, ↓g_negK, ↓g_asCell, ↓p_nil, ↓p_one, ↓s_pass, ↓s_brk, ↓s_cont, ↓s_never, ↓s_expr, ↓s_ret, ↓s_retN, ↓s_asg, ↓s_par, ↓s_par3, ↓g_rgV, ↓g_rgVK, ↓g_revL, ↓g_revT, ↓s_aug, ↓s_iff, ↓b_add, ↓b_sub, ↓b_mulr, ↓b_mull, ↓b_fdiv, ↓b_mod, ↓b_addLS, ↓b_addTS, ↓q_eqI, ↓q_neI, ↓q_eqB, ↓q_neB, ↓q_lt, ↓q_le, ↓q_gt, ↓q_ge, ↓q_isN, ↓q_isB, ↓q_isnB, ↓isB_b, ↓q_isnN, ↓q_inB, ↓q_notinB, ↓f_lenT, ↓f_lenL, ↓f_int, ↓f_abs, ↓f_max2, ↓f_min2, ↓f_tupleL, ↓f_tupleT, ↓f_listL, ↓f_listT, ↓f_divmod, ↓f_all, ↓f_any, ↓f_sum, ↓a_0, ↓a_1, ↓a_2, ↓t_v, ↓go_cons, ↓go_nil, ↓go_bind, ↓go_pure, ↓go_lookM, ↓go_lookTM, ↓go_truB, ↓go_noneM, ↓go_moveM, ↓go_ite, ↓go_fin, startE, tyB, isNone, Tgs.len, Exs.len, List.map_cons, List.map_nil, List.length_cons, List.length_nil, List.cons_append, List.nil_append, List.take_length, if_true, Bool.not_false, Bool.not_true, List.set_cons_zero, List.set_cons_succ, Nat.reduceAdd, Nat.reduceSub, List.reduceReplicate, Bool.false_eq_true, if_false, reduceIte, and_self, Bool.true_eq_false, decide_true, decide_false]
          exact hq _ _ _
    · rcases List.mem_append.mp hx with hx | hx
      · obtain ⟨i, _, rfl⟩ := List.mem_map.mp hx; exact ⟨i, rfl⟩
      · exact ⟨own, List.mem_singleton.mp hx⟩
end
end RL

set_option Elab.async false
set_option linter.all false
set_option maxRecDepth 100000
set_option maxHeartbeats 4000000
namespace RL
open PySem PySem.Spec PyProof.Rows L2
theorem s35d : ∀ (k n : Nat) (x : D) {st : Sto} {Q : Val → Sto → Prop}, k ≤ n → okS k x = true → (Go (callN pr n 35 [.d x, .d x]) st Q ↔ Q (.d (.bool true)) st)
  | 0, _, _, _, _, _, h => by cases h
  | k + 1, n, x, st, Q, hn, h => by
    obtain ⟨m, rfl⟩ : ∃ m, n = m + 1 := ⟨n - 1, by omega⟩
    rw [go_call (fi := f35) rfl rfl]
    unfold okS at h
    split at h
    · rename_i xs
      simp (maxSteps := 2000000) (disch := first | omega | assumption | (simp only [List.length_map, List.length_append, List.length_cons, List.length_nil, List.length_take, List.length_drop, List.length_reverse, List.length_replicate]; omega)) only [f35, List.any_cons, List.any_nil, Bool.or_false, Bool.or_self, Bool.true_or, BEq.rfl, seqs_tt, zipD_self, ↓w_nil, ↓w_cons, ↓g_comp, ↓g_comp2, ↓s_for, ↓s_while, ↓g_non, ↓g_bl, ↓g_int, ↓g_str, ↓g_v, ↓g_g, ↓g_get0, ↓g_gets, ↓g_neg, ↓g_bin, ↓g_cmp, ↓g_cmp2, ↓g_and, ↓g_or, ↓g_not, ↓g_ite, ↓g_call, ↓g_callK, ↓g_bi, ↓g_listC, ↓g_rgT, ↓g_rgL, ↓g_isi, ↓g_isiT, ↓g_tup, ↓g_lst, ↓g_ix, ↓g_sl, ↓g_rev, ↓g_app, ↓g_upper, ↓t_and, ↓t_or, ↓t_not, ↓t_ite, ↓t_bl, ↓t_cmp, ↓t_cmp2, ↓t_call, ↓t_callK, ↓t_bi, ↓t_isi, ↓t_isiT, ↓t_ix, ↓l_nil, ↓l_cons, ↓lt_nil, ↓lt_cons, ↓looks_nil, ↓looks_cons, ↓moves_nil, ↓moves_cons, ↓i_seq, ↓i_rng1, ↓i_rng2, ↓i_enum, ↓i_zip, ↓it_list, ↓it_tuple, ↓it_s, ↓gg_n, ↓gg_t, ↓gg_ix, ↓gs_nil, ↓gs_cons, ↓g_tupS, ↓g_lstS, ↓g_lstCS, ↓g_mkL, ↓g_mkC, ↓g_ixT, ↓g_ixL, ↓g_negK, ↓g_asCell, ↓p_nil, ↓p_one, ↓s_pass, ↓s_brk, ↓s_cont, ↓s_never, ↓s_expr, ↓s_ret, ↓s_retN, ↓s_asg, ↓s_par, ↓s_par3, ↓g_rgV, ↓g_rgVK, ↓g_revL, ↓g_revT, ↓s_aug, ↓s_iff, ↓b_add, ↓b_sub, ↓b_mulr, ↓b_mull, ↓b_fdiv, ↓b_mod, ↓b_addLS, ↓b_addTS, ↓q_eqI, ↓q_neI, ↓q_eqB, ↓q_neB, ↓q_lt, ↓q_le, ↓q_gt, ↓q_ge, ↓q_isN, ↓q_isB, ↓q_isnB, ↓isB_b, ↓q_isnN, ↓q_inB, ↓q_notinB, ↓f_lenT, ↓f_lenL, ↓f_int, ↓f_abs, ↓f_max2, ↓f_min2, ↓f_tupleL, ↓f_tupleT, ↓f_listL, ↓f_listT, ↓f_divmod, ↓f_all, ↓f_any, ↓f_sum, ↓a_0, ↓a_1, ↓a_2, ↓t_v, ↓go_cons, ↓go_nil, ↓go_bind, ↓go_pure, ↓go_lookM, ↓go_lookTM, ↓go_truB, ↓go_noneM, ↓go_moveM, ↓go_ite, ↓go_fin, startE, tyB, isNone, Tgs.len, Exs.len, List.map_cons, List.map_nil, List.length_cons, List.length_nil, List.cons_append, List.nil_append, List.take_length, if_true, Bool.not_false, Bool.not_true, List.set_cons_zero, List.set_cons_succ, Nat.reduceAdd, Nat.reduceSub, List.reduceReplicate, Bool.false_eq_true, if_false, reduceIte, and_self, Bool.true_eq_false, decide_true, decide_false]
      rw [go_of (compL_map (g := fun _ => [PyData.bool true]) (fun y hy => ?_))]
      · rw [flatMap_one, show (xs.map fun _ => PyData.bool true) = (xs.map fun _ => true).map .bool by simp]
        have e : (xs.map fun _ => true).contains false = false := by
          rw [Bool.eq_false_iff]
          intro z
          have := List.contains_iff_mem.mp z
          obtain ⟨_, _, q⟩ := List.mem_map.mp this
          cases q
        simp (maxSteps := 2000000) (disch := first | omega | assumption | (simp only [List.length_map, List.length_append, List.length_cons, List.length_nil, List.length_take, List.length_drop, List.length_reverse, List.length_replicate]; omega)) only [e, ↓w_nil, ↓w_cons, ↓g_comp, ↓g_comp2, ↓s_for, ↓s_while, ↓g_non, ↓g_bl, ↓g_int, ↓g_str, ↓g_v, ↓g_g, ↓g_get0, ↓g_gets, ↓g_neg, ↓g_bin, ↓g_cmp, ↓g_cmp2, ↓g_and, ↓g_or, ↓g_not, ↓g_ite, ↓g_call, ↓g_callK, ↓g_bi, ↓g_listC, ↓g_rgT, ↓g_rgL, ↓g_isi, ↓g_isiT, ↓g_tup, ↓g_lst, ↓g_ix, ↓g_sl, ↓g_rev, ↓g_app, ↓g_upper, ↓t_and, ↓t_or, ↓t_not, ↓t_ite, ↓t_bl, ↓t_cmp, ↓t_cmp2, ↓t_call, ↓t_callK, ↓t_bi, ↓t_isi, ↓t_isiT, ↓t_ix, ↓l_nil, ↓l_cons, ↓lt_nil, ↓lt_cons, ↓looks_nil, ↓looks_cons, ↓moves_nil, ↓moves_cons, ↓i_seq, ↓i_rng1, ↓i_rng2, ↓i_enum, ↓i_zip, ↓it_list, ↓it_tuple, ↓it_s, ↓gg_n, ↓gg_t, ↓gg_ix, ↓gs_nil, ↓gs_cons, ↓g_tupS, ↓g_lstS, ↓g_lstCS, ↓g_mkL, ↓g_mkC, ↓g_ixT, ↓g_ixL, ↓g_negK, ↓g_asCell, ↓p_nil, ↓p_one, ↓s_pass, ↓s_brk, ↓s_cont, ↓s_never, ↓s_expr, ↓s_ret, ↓s_retN, ↓s_asg, ↓s_par, ↓s_par3, ↓g_rgV, ↓g_rgVK, ↓g_revL, ↓g_revT, ↓s_aug, ↓s_iff, ↓b_add, ↓b_sub, ↓b_mulr, ↓b_mull, ↓b_fdiv, ↓b_mod, ↓b_addLS, ↓b_addTS, ↓q_eqI, ↓q_neI, ↓q_eqB, ↓q_neB, ↓q_lt, ↓q_le, ↓q_gt, ↓q_ge, ↓q_isN, ↓q_isB, ↓q_isnB, ↓isB_b, ↓q_isnN, ↓q_inB, ↓q_notinB, ↓f_lenT, ↓f_lenL, ↓f_int, ↓f_abs, ↓f_max2, ↓f_min2, ↓f_tupleL, ↓f_tupleT, ↓f_listL, ↓f_listT, ↓f_divmod, ↓f_all, ↓f_any, ↓f_sum, ↓a_0, ↓a_1, ↓a_2, ↓t_v, ↓go_cons, ↓go_nil, ↓go_bind, ↓go_pure, ↓go_lookM, ↓go_lookTM, ↓go_truB, ↓go_noneM, ↓go_moveM, ↓go_ite, ↓go_fin, startE, tyB, isNone, Tgs.len, Exs.len, List.map_cons, List.map_nil, List.length_cons, List.length_nil, List.cons_append, List.nil_append, List.take_length, if_true, Bool.not_false, Bool.not_true, List.set_cons_zero, List.set_cons_succ, Nat.reduceAdd, Nat.reduceSub, List.reduceReplicate, Bool.false_eq_true, if_false, reduceIte, and_self, Bool.true_eq_false, decide_true, decide_false]
      · have hy' := List.all_eq_true.mp h y hy
        apply ok_of
        simp (maxSteps := 2000000) (disch := first | omega | assumption | (simp only [List.length_map, List.length_append, List.length_cons, List.length_nil, List.length_take, List.length_drop, List.length_reverse, List.length_replicate]; omega)) only [↓g_compF, wipeE, s35d k m y (by omega) hy', ↓w_nil, ↓w_cons, ↓g_comp, ↓g_comp2, ↓s_for, ↓s_while, ↓g_non, ↓g_bl, ↓g_int, ↓g_str, ↓g_v, ↓g_g, ↓g_get0, ↓g_gets, ↓g_neg, ↓g_bin, ↓g_cmp, ↓g_cmp2, ↓g_and, ↓g_or, ↓g_not, ↓g_ite, ↓g_call, ↓g_callK, ↓g_bi, ↓g_listC, ↓g_rgT, ↓g_rgL, ↓g_isi, ↓g_isiT, ↓g_tup, ↓g_lst, ↓g_ix, ↓g_sl, ↓g_rev, ↓g_app, ↓g_upper, ↓t_and, ↓t_or, ↓t_not, ↓t_ite, ↓t_bl, ↓t_cmp, ↓t_cmp2, ↓t_call, ↓t_callK, ↓t_bi, ↓t_isi, ↓t_isiT, ↓t_ix, ↓l_nil, ↓l_cons, ↓lt_nil, ↓lt_cons, ↓looks_nil, ↓looks_cons, ↓moves_nil, ↓moves_cons, ↓i_seq, ↓i_rng1, ↓i_rng2, ↓i_enum, ↓i_zip, ↓it_list, ↓it_tuple, ↓it_s, ↓gg_n, ↓gg_t, ↓gg_ix, ↓gs_nil, ↓gs_cons, ↓g_tupS, ↓g_lstS, ↓g_lstCS, ↓g_mkL, ↓g_mkC, ↓g_ixT, ↓g_ixL, ↓g_negK, ↓g_asCell, ↓p_nil, ↓p_one, ↓s_pass, ↓s_brk, ↓s_cont, ↓s_never, ↓s_expr, ↓s_ret, ↓s_retN, ↓s_asg, ↓s_par, ↓s_par3, ↓g_rgV, ↓g_rgVK, ↓g_revL, ↓g_revT, ↓s_aug, ↓s_iff, ↓b_add, ↓b_sub, ↓b_mulr, ↓b_mull, ↓b_fdiv, ↓b_mod, ↓b_addLS, ↓b_addTS, ↓q_eqI, ↓q_neI, ↓q_eqB, ↓q_neB, ↓q_lt, ↓q_le, ↓q_gt, ↓q_ge, ↓q_isN, ↓q_isB, ↓q_isnB, ↓isB_b, ↓q_isnN, ↓q_inB, ↓q_notinB, ↓f_lenT, ↓f_lenL, ↓f_int, ↓f_abs, ↓f_max2, ↓f_min2, ↓f_tupleL, ↓f_tupleT, ↓f_listL, ↓f_listT, ↓f_divmod, ↓f_all, ↓f_any, ↓f_sum, ↓a_0, ↓a_1, ↓a_2, ↓t_v, ↓go_cons, ↓go_nil, ↓go_bind, ↓go_pure, ↓go_lookM, ↓go_lookTM, ↓go_truB, ↓go_noneM, ↓go_moveM, ↓go_ite, ↓go_fin, startE, tyB, isNone, Tgs.len, Exs.len, List.map_cons, List.map_nil, List.length_cons, List.length_nil, List.cons_append, List.nil_append, List.take_length, if_true, Bool.not_false, Bool.not_true, List.set_cons_zero, List.set_cons_succ, Nat.reduceAdd, Nat.reduceSub, List.reduceReplicate, Bool.false_eq_true, if_false, reduceIte, and_self, Bool.true_eq_false, decide_true, decide_false]
    · simp (maxSteps := 2000000) (disch := first | omega | assumption | (simp only [List.length_map, List.length_append, List.length_cons, List.length_nil, List.length_take, List.length_drop, List.length_reverse, List.length_replicate]; omega)) only [f35, List.any_cons, List.any_nil, Bool.or_false, Bool.or_self, Bool.true_or, BEq.rfl, ↓w_nil, ↓w_cons, ↓g_comp, ↓g_comp2, ↓s_for, ↓s_while, ↓g_non, ↓g_bl, ↓g_int, ↓g_str, ↓g_v, ↓g_g, ↓g_get0, ↓g_gets, ↓g_neg, ↓g_bin, ↓g_cmp, ↓g_cmp2, ↓g_and, ↓g_or, ↓g_not, ↓g_ite, ↓g_call, ↓g_callK, ↓g_bi, ↓g_listC, ↓g_rgT, ↓g_rgL, ↓g_isi, ↓g_isiT, ↓g_tup, ↓g_lst, ↓g_ix, ↓g_sl, ↓g_rev, ↓g_app, ↓g_upper, ↓t_and, ↓t_or, ↓t_not, ↓t_ite, ↓t_bl, ↓t_cmp, ↓t_cmp2, ↓t_call, ↓t_callK, ↓t_bi, ↓t_isi, ↓t_isiT, ↓t_ix, ↓l_nil, ↓l_cons, ↓lt_nil, ↓lt_cons, ↓looks_nil, ↓looks_cons, ↓moves_nil, ↓moves_cons, ↓i_seq, ↓i_rng1, ↓i_rng2, ↓i_enum, ↓i_zip, ↓it_list, ↓it_tuple, ↓it_s, ↓gg_n, ↓gg_t, ↓gg_ix, ↓gs_nil, ↓gs_cons, ↓g_tupS, ↓g_lstS, ↓g_lstCS, ↓g_mkL, ↓g_mkC, ↓g_ixT, ↓g_ixL, ↓g_negK, ↓g_asCell, ↓p_nil, ↓p_one, ↓s_pass, ↓s_brk, ↓s_cont, ↓s_never, ↓s_expr, ↓s_ret, ↓s_retN, ↓s_asg, ↓s_par, ↓s_par3, ↓g_rgV, ↓g_rgVK, ↓g_revL, ↓g_revT, ↓s_aug, ↓s_iff, ↓b_add, ↓b_sub, ↓b_mulr, ↓b_mull, ↓b_fdiv, ↓b_mod, ↓b_addLS, ↓b_addTS, ↓q_eqI, ↓q_neI, ↓q_eqB, ↓q_neB, ↓q_lt, ↓q_le, ↓q_gt, ↓q_ge, ↓q_isN, ↓q_isB, ↓q_isnB, ↓isB_b, ↓q_isnN, ↓q_inB, ↓q_notinB, ↓f_lenT, ↓f_lenL, ↓f_int, ↓f_abs, ↓f_max2, ↓f_min2, ↓f_tupleL, ↓f_tupleT, ↓f_listL, ↓f_listT, ↓f_divmod, ↓f_all, ↓f_any, ↓f_sum, ↓a_0, ↓a_1, ↓a_2, ↓t_v, ↓go_cons, ↓go_nil, ↓go_bind, ↓go_pure, ↓go_lookM, ↓go_lookTM, ↓go_truB, ↓go_noneM, ↓go_moveM, ↓go_ite, ↓go_fin, startE, tyB, isNone, Tgs.len, Exs.len, List.map_cons, List.map_nil, List.length_cons, List.length_nil, List.cons_append, List.nil_append, List.take_length, if_true, Bool.not_false, Bool.not_true, List.set_cons_zero, List.set_cons_succ, Nat.reduceAdd, Nat.reduceSub, List.reduceReplicate, Bool.false_eq_true, if_false, reduceIte, and_self, Bool.true_eq_false, decide_true, decide_false]
    · simp (maxSteps := 2000000) (disch := first | omega | assumption | (simp only [List.length_map, List.length_append, List.length_cons, List.length_nil, List.length_take, List.length_drop, List.length_reverse, List.length_replicate]; omega)) only [f35, List.any_cons, List.any_nil, Bool.or_false, Bool.or_self, Bool.true_or, BEq.rfl, ↓w_nil, ↓w_cons, ↓g_comp, ↓g_comp2, ↓s_for, ↓s_while, ↓g_non, ↓g_bl, ↓g_int, ↓g_str, ↓g_v, ↓g_g, ↓g_get0, ↓g_gets, ↓g_neg, ↓g_bin, ↓g_cmp, ↓g_cmp2, ↓g_and, ↓g_or, ↓g_not, ↓g_ite, ↓g_call, ↓g_callK, ↓g_bi, ↓g_listC, ↓g_rgT, ↓g_rgL, ↓g_isi, ↓g_isiT, ↓g_tup, ↓g_lst, ↓g_ix, ↓g_sl, ↓g_rev, ↓g_app, ↓g_upper, ↓t_and, ↓t_or, ↓t_not, ↓t_ite, ↓t_bl, ↓t_cmp, ↓t_cmp2, ↓t_call, ↓t_callK, ↓t_bi, ↓t_isi, ↓t_isiT, ↓t_ix, ↓l_nil, ↓l_cons, ↓lt_nil, ↓lt_cons, ↓looks_nil, ↓looks_cons, ↓moves_nil, ↓moves_cons, ↓i_seq, ↓i_rng1, ↓i_rng2, ↓i_enum, ↓i_zip, ↓it_list, ↓it_tuple, ↓it_s, ↓gg_n, ↓gg_t, ↓gg_ix, ↓gs_nil, ↓gs_cons, ↓g_tupS, ↓g_lstS, ↓g_lstCS, ↓g_mkL, ↓g_mkC, ↓g_ixT, ↓g_ixL, ↓g_negK, ↓g_asCell, ↓p_nil, ↓p_one, ↓s_pass, ↓s_brk, ↓s_cont, ↓s_never, ↓s_expr, ↓s_ret, ↓s_retN, ↓s_asg, ↓s_par, ↓s_par3, ↓g_rgV, ↓g_rgVK, ↓g_revL, ↓g_revT, ↓s_aug, ↓s_iff, ↓b_add, ↓b_sub, ↓b_mulr, ↓b_mull, ↓b_fdiv, ↓b_mod, ↓b_addLS, ↓b_addTS, ↓q_eqI, ↓q_neI, ↓q_eqB, ↓q_neB, ↓q_lt, ↓q_le, ↓q_gt, ↓q_ge, ↓q_isN, ↓q_isB, ↓q_isnB, ↓isB_b, ↓q_isnN, ↓q_inB, ↓q_notinB, ↓f_lenT, ↓f_lenL, ↓f_int, ↓f_abs, ↓f_max2, ↓f_min2, ↓f_tupleL, ↓f_tupleT, ↓f_listL, ↓f_listT, ↓f_divmod, ↓f_all, ↓f_any, ↓f_sum, ↓a_0, ↓a_1, ↓a_2, ↓t_v, ↓go_cons, ↓go_nil, ↓go_bind, ↓go_pure, ↓go_lookM, ↓go_lookTM, ↓go_truB, ↓go_noneM, ↓go_moveM, ↓go_ite, ↓go_fin, startE, tyB, isNone, Tgs.len, Exs.len, List.map_cons, List.map_nil, List.length_cons, List.length_nil, List.cons_append, List.nil_append, List.take_length, if_true, Bool.not_false, Bool.not_true, List.set_cons_zero, List.set_cons_succ, Nat.reduceAdd, Nat.reduceSub, List.reduceReplicate, Bool.false_eq_true, if_false, reduceIte, and_self, Bool.true_eq_false, decide_true, decide_false]
    · cases h
end RL

set_option Elab.async false
set_option linter.all false
set_option maxRecDepth 100000
set_option maxHeartbeats 4000000
namespace RL
open PySem PySem.Spec PyProof.Rows L2
section
variable {n : Nat} {st : Sto} {i j k : Int} {Q : Val → Sto → Prop} {c : Nat} {x y z : Int}
theorem isN_optD {o : Option (Int × Int)} : (match optD o with | PyData.none => true | _ => false) = o.isNone := by cases o <;> rfl
theorem Sok.of_win {P a b : Int} (h : PerOk P) (hm : (a, b) ∈ win P) : Sok a b := by
  have := win_mem.mp hm
  have := h.le
  exact ⟨by omega, by omega, by omega⟩
theorem s44 (hn : 11 ≤ n) (h : c < st.length) {p q : Pl} (hp : Pok p) (hq' : Pok q) (hq : ∀ x' y' z', Q (.d (.bool true)) (U st c x' y' z')) : Go (callN pr n 44 [.r c, .d (plD p), .d (plD q)]) (U st c x y z) Q := by
  obtain ⟨m, rfl⟩ : ∃ m, n = m + 1 := ⟨n - 1, by omega⟩
  rw [go_call (fi := f44) rfl rfl]
  obtain ⟨hP, _⟩ := per_ok (steps2 hp hq')
  obtain ⟨L, hL⟩ : ∃ L, L = U st c x y z := ⟨_, rfl⟩
  have key : Go (exSs (callN pr m) pr.glb f44.body [some (.r c), some (.d (plD p)), some (.d (plD q)), none, none, none, none, none]) (U st c x y z) fun fl s => ∃ x y z, fl = .ret (.d (.bool true)) ∧ s = U st c x y z := by
    unfold f44
    refine go_seq (fun ρ s => ∃ x y z, ρ = [some (.r c), some (.d (plD p)), some (.d (plD q)), some (.d (optD (lg p q))), none, none, none, none] ∧ s = U st c x y z) ?_ ?_
    · simp (maxSteps := 2000000) (disch := first | omega | assumption | (simp only [List.length_map, List.length_append, List.length_cons, List.length_nil, List.length_take, List.length_drop, List.length_reverse, List.length_replicate]; omega)) only [↓w_nil, ↓w_cons, ↓g_comp, ↓g_comp2, ↓s_for, ↓s_while, ↓g_non, ↓g_bl, ↓g_int, ↓g_str, ↓g_v, ↓g_g, ↓g_get0, ↓g_gets, ↓g_neg, ↓g_bin, ↓g_cmp, ↓g_cmp2, ↓g_and, ↓g_or, ↓g_not, ↓g_ite, ↓g_call, ↓g_callK, ↓g_bi, ↓g_listC, ↓g_rgT, ↓g_rgL, ↓g_isi, ↓g_isiT, ↓g_tup, ↓g_lst, ↓g_ix, ↓g_sl, ↓g_rev, ↓g_app, ↓g_upper, ↓t_and, ↓t_or, ↓t_not, ↓t_ite, ↓t_bl, ↓t_cmp, ↓t_cmp2, ↓t_call, ↓t_callK, ↓t_bi, ↓t_isi, ↓t_isiT, ↓t_ix, ↓l_nil, ↓l_cons, ↓lt_nil, ↓lt_cons, ↓looks_nil, ↓looks_cons, ↓moves_nil, ↓moves_cons, ↓i_seq, ↓i_rng1, ↓i_rng2, ↓i_enum, ↓i_zip, ↓it_list, ↓it_tuple, ↓it_s, ↓gg_n, ↓gg_t, ↓gg_ix, ↓gs_nil, ↓gs_cons, ↓g_tupS, ↓g_lstS, ↓g_lstCS, ↓g_mkL, ↓g_mkC, ↓g_ixT, ↓g_ixL, ↓g_negK, ↓g_asCell, ↓p_nil, ↓p_one, ↓s_pass, ↓s_brk, ↓s_cont, ↓s_never, ↓s_expr, ↓s_ret, ↓s_retN, ↓s_asg, ↓s_par, ↓s_par3, ↓g_rgV, ↓g_rgVK, ↓g_revL, ↓g_revT, ↓s_aug, ↓s_iff, ↓b_add, ↓b_sub, ↓b_mulr, ↓b_mull, ↓b_fdiv, ↓b_mod, ↓b_addLS, ↓b_addTS, ↓q_eqI, ↓q_neI, ↓q_eqB, ↓q_neB, ↓q_lt, ↓q_le, ↓q_gt, ↓q_ge, ↓q_isN, ↓q_isB, ↓q_isnB, ↓isB_b, ↓q_isnN, ↓q_inB, ↓q_notinB, ↓f_lenT, ↓f_lenL, ↓f_int, ↓f_abs, ↓f_max2, ↓f_min2, ↓f_tupleL, ↓f_tupleT, ↓f_listL, ↓f_listT, ↓f_divmod, ↓f_all, ↓f_any, ↓f_sum, ↓a_0, ↓a_1, ↓a_2, ↓t_v, ↓go_nil, ↓go_bind, ↓go_pure, ↓go_lookM, ↓go_lookTM, ↓go_truB, ↓go_noneM, ↓go_moveM, ↓go_ite, ↓go_fin, startE, tyB, isNone, Tgs.len, Exs.len, List.map_cons, List.map_nil, List.length_cons, List.length_nil, List.cons_append, List.nil_append, List.take_length, if_true, Bool.not_false, Bool.not_true, List.set_cons_zero, List.set_cons_succ, Nat.reduceAdd, Nat.reduceSub, List.reduceReplicate, Bool.false_eq_true, if_false, reduceIte, and_self, Bool.true_eq_false, decide_true, decide_false]
      refine s40 (by omega) hp hq' ?_
      try simp (maxSteps := 2000000) (disch := first | omega | assumption | (simp only [List.length_map, List.length_append, List.length_cons, List.length_nil, List.length_take, List.length_drop, List.length_reverse, List.length_replicate]; omega)) only [↓w_nil, ↓w_cons, ↓g_comp, ↓g_comp2, ↓s_for, ↓s_while, ↓g_non, ↓g_bl, ↓g_int, ↓g_str, ↓g_v, ↓g_g, ↓g_get0, ↓g_gets, ↓g_neg, ↓g_bin, ↓g_cmp, ↓g_cmp2, ↓g_and, ↓g_or, ↓g_not, ↓g_ite, ↓g_call, ↓g_callK, ↓g_bi, ↓g_listC, ↓g_rgT, ↓g_rgL, ↓g_isi, ↓g_isiT, ↓g_tup, ↓g_lst, ↓g_ix, ↓g_sl, ↓g_rev, ↓g_app, ↓g_upper, ↓t_and, ↓t_or, ↓t_not, ↓t_ite, ↓t_bl, ↓t_cmp, ↓t_cmp2, ↓t_call, ↓t_callK, ↓t_bi, ↓t_isi, ↓t_isiT, ↓t_ix, ↓l_nil, ↓l_cons, ↓lt_nil, ↓lt_cons, ↓looks_nil, ↓looks_cons, ↓moves_nil, ↓moves_cons, ↓i_seq, ↓i_rng1, ↓i_rng2, ↓i_enum, ↓i_zip, ↓it_list, ↓it_tuple, ↓it_s, ↓gg_n, ↓gg_t, ↓gg_ix, ↓gs_nil, ↓gs_cons, ↓g_tupS, ↓g_lstS, ↓g_lstCS, ↓g_mkL, ↓g_mkC, ↓g_ixT, ↓g_ixL, ↓g_negK, ↓g_asCell, ↓p_nil, ↓p_one, ↓s_pass, ↓s_brk, ↓s_cont, ↓s_never, ↓s_expr, ↓s_ret, ↓s_retN, ↓s_asg, ↓s_par, ↓s_par3, ↓g_rgV, ↓g_rgVK, ↓g_revL, ↓g_revT, ↓s_aug, ↓s_iff, ↓b_add, ↓b_sub, ↓b_mulr, ↓b_mull, ↓b_fdiv, ↓b_mod, ↓b_addLS, ↓b_addTS, ↓q_eqI, ↓q_neI, ↓q_eqB, ↓q_neB, ↓q_lt, ↓q_le, ↓q_gt, ↓q_ge, ↓q_isN, ↓q_isB, ↓q_isnB, ↓isB_b, ↓q_isnN, ↓q_inB, ↓q_notinB, ↓f_lenT, ↓f_lenL, ↓f_int, ↓f_abs, ↓f_max2, ↓f_min2, ↓f_tupleL, ↓f_tupleT, ↓f_listL, ↓f_listT, ↓f_divmod, ↓f_all, ↓f_any, ↓f_sum, ↓a_0, ↓a_1, ↓a_2, ↓t_v, ↓go_nil, ↓go_bind, ↓go_pure, ↓go_lookM, ↓go_lookTM, ↓go_truB, ↓go_noneM, ↓go_moveM, ↓go_ite, ↓go_fin, startE, tyB, isNone, Tgs.len, Exs.len, List.map_cons, List.map_nil, List.length_cons, List.length_nil, List.cons_append, List.nil_append, List.take_length, if_true, Bool.not_false, Bool.not_true, List.set_cons_zero, List.set_cons_succ, Nat.reduceAdd, Nat.reduceSub, List.reduceReplicate, Bool.false_eq_true, if_false, reduceIte, and_self, Bool.true_eq_false, decide_true, decide_false]
      exact ⟨_, rfl, _, _, _, rfl, rfl⟩
    rintro ρ s ⟨x, y, z, rfl, rfl⟩
    refine go_seq (fun ρ s => ∃ x y z, ρ = [some (.r c), some (.d (plD p)), some (.d (plD q)), some (.d (optD (lg p q))), some (.d (.bool (lg p q).isNone)), none, none, none] ∧ s = U st c x y z) ?_ ?_
    · simp (maxSteps := 2000000) (disch := first | omega | assumption | (simp only [List.length_map, List.length_append, List.length_cons, List.length_nil, List.length_take, List.length_drop, List.length_reverse, List.length_replicate]; omega)) only [↓w_nil, ↓w_cons, ↓g_comp, ↓g_comp2, ↓s_for, ↓s_while, ↓g_non, ↓g_bl, ↓g_int, ↓g_str, ↓g_v, ↓g_g, ↓g_get0, ↓g_gets, ↓g_neg, ↓g_bin, ↓g_cmp, ↓g_cmp2, ↓g_and, ↓g_or, ↓g_not, ↓g_ite, ↓g_call, ↓g_callK, ↓g_bi, ↓g_listC, ↓g_rgT, ↓g_rgL, ↓g_isi, ↓g_isiT, ↓g_tup, ↓g_lst, ↓g_ix, ↓g_sl, ↓g_rev, ↓g_app, ↓g_upper, ↓t_and, ↓t_or, ↓t_not, ↓t_ite, ↓t_bl, ↓t_cmp, ↓t_cmp2, ↓t_call, ↓t_callK, ↓t_bi, ↓t_isi, ↓t_isiT, ↓t_ix, ↓l_nil, ↓l_cons, ↓lt_nil, ↓lt_cons, ↓looks_nil, ↓looks_cons, ↓moves_nil, ↓moves_cons, ↓i_seq, ↓i_rng1, ↓i_rng2, ↓i_enum, ↓i_zip, ↓it_list, ↓it_tuple, ↓it_s, ↓gg_n, ↓gg_t, ↓gg_ix, ↓gs_nil, ↓gs_cons, ↓g_tupS, ↓g_lstS, ↓g_lstCS, ↓g_mkL, ↓g_mkC, ↓g_ixT, ↓g_ixL, ↓g_negK, ↓g_asCell, ↓p_nil, ↓p_one, ↓s_pass, ↓s_brk, ↓s_cont, ↓s_never, ↓s_expr, ↓s_ret, ↓s_retN, ↓s_asg, ↓s_par, ↓s_par3, ↓g_rgV, ↓g_rgVK, ↓g_revL, ↓g_revT, ↓s_aug, ↓s_iff, ↓b_add, ↓b_sub, ↓b_mulr, ↓b_mull, ↓b_fdiv, ↓b_mod, ↓b_addLS, ↓b_addTS, ↓q_eqI, ↓q_neI, ↓q_eqB, ↓q_neB, ↓q_lt, ↓q_le, ↓q_gt, ↓q_ge, ↓q_isN, ↓q_isB, ↓q_isnB, ↓isB_b, ↓q_isnN, ↓q_inB, ↓q_notinB, ↓f_lenT, ↓f_lenL, ↓f_int, ↓f_abs, ↓f_max2, ↓f_min2, ↓f_tupleL, ↓f_tupleT, ↓f_listL, ↓f_listT, ↓f_divmod, ↓f_all, ↓f_any, ↓f_sum, ↓a_0, ↓a_1, ↓a_2, ↓t_v, ↓go_nil, ↓go_bind, ↓go_pure, ↓go_lookM, ↓go_lookTM, ↓go_truB, ↓go_noneM, ↓go_moveM, ↓go_ite, ↓go_fin, startE, tyB, isNone, Tgs.len, Exs.len, List.map_cons, List.map_nil, List.length_cons, List.length_nil, List.cons_append, List.nil_append, List.take_length, if_true, Bool.not_false, Bool.not_true, List.set_cons_zero, List.set_cons_succ, Nat.reduceAdd, Nat.reduceSub, List.reduceReplicate, Bool.false_eq_true, if_false, reduceIte, and_self, Bool.true_eq_false, decide_true, decide_false]
      refine s31 (by omega) h (by omega) (by omega) fun r x1 y1 z1 r0 r1 => ?_
      by_cases c0 : r = 0
      · simp (maxSteps := 2000000) (disch := first | omega | assumption | (simp only [List.length_map, List.length_append, List.length_cons, List.length_nil, List.length_take, List.length_drop, List.length_reverse, List.length_replicate]; omega)) only [c0, ↓w_nil, ↓w_cons, ↓g_comp, ↓g_comp2, ↓s_for, ↓s_while, ↓g_non, ↓g_bl, ↓g_int, ↓g_str, ↓g_v, ↓g_g, ↓g_get0, ↓g_gets, ↓g_neg, ↓g_bin, ↓g_cmp, ↓g_cmp2, ↓g_and, ↓g_or, ↓g_not, ↓g_ite, ↓g_call, ↓g_callK, ↓g_bi, ↓g_listC, ↓g_rgT, ↓g_rgL, ↓g_isi, ↓g_isiT, ↓g_tup, ↓g_lst, ↓g_ix, ↓g_sl, ↓g_rev, ↓g_app, ↓g_upper, ↓t_and, ↓t_or, ↓t_not, ↓t_ite, ↓t_bl, ↓t_cmp, ↓t_cmp2, ↓t_call, ↓t_callK, ↓t_bi, ↓t_isi, ↓t_isiT, ↓t_ix, ↓l_nil, ↓l_cons, ↓lt_nil, ↓lt_cons, ↓looks_nil, ↓looks_cons, ↓moves_nil, ↓moves_cons, ↓i_seq, ↓i_rng1, ↓i_rng2, ↓i_enum, ↓i_zip, ↓it_list, ↓it_tuple, ↓it_s, ↓gg_n, ↓gg_t, ↓gg_ix, ↓gs_nil, ↓gs_cons, ↓g_tupS, ↓g_lstS, ↓g_lstCS, ↓g_mkL, ↓g_mkC, ↓g_ixT, ↓g_ixL, ↓g_negK, ↓g_asCell, ↓p_nil, ↓p_one, ↓s_pass, ↓s_brk, ↓s_cont, ↓s_never, ↓s_expr, ↓s_ret, ↓s_retN, ↓s_asg, ↓s_par, ↓s_par3, ↓g_rgV, ↓g_rgVK, ↓g_revL, ↓g_revT, ↓s_aug, ↓s_iff, ↓b_add, ↓b_sub, ↓b_mulr, ↓b_mull, ↓b_fdiv, ↓b_mod, ↓b_addLS, ↓b_addTS, ↓q_eqI, ↓q_neI, ↓q_eqB, ↓q_neB, ↓q_lt, ↓q_le, ↓q_gt, ↓q_ge, ↓q_isN, ↓q_isB, ↓q_isnB, ↓isB_b, ↓q_isnN, ↓q_inB, ↓q_notinB, ↓f_lenT, ↓f_lenL, ↓f_int, ↓f_abs, ↓f_max2, ↓f_min2, ↓f_tupleL, ↓f_tupleT, ↓f_listL, ↓f_listT, ↓f_divmod, ↓f_all, ↓f_any, ↓f_sum, ↓a_0, ↓a_1, ↓a_2, ↓t_v, ↓go_nil, ↓go_bind, ↓go_pure, ↓go_lookM, ↓go_lookTM, ↓go_truB, ↓go_noneM, ↓go_moveM, ↓go_ite, ↓go_fin, startE, tyB, isNone, Tgs.len, Exs.len, List.map_cons, List.map_nil, List.length_cons, List.length_nil, List.cons_append, List.nil_append, List.take_length, if_true, Bool.not_false, Bool.not_true, List.set_cons_zero, List.set_cons_succ, Nat.reduceAdd, Nat.reduceSub, List.reduceReplicate, Bool.false_eq_true, if_false, reduceIte, and_self, Bool.true_eq_false, decide_true, decide_false]
        refine s27 (by omega) hp hq' ?_
        try simp (maxSteps := 2000000) (disch := first | omega | assumption | (simp only [List.length_map, List.length_append, List.length_cons, List.length_nil, List.length_take, List.length_drop, List.length_reverse, List.length_replicate]; omega)) only [↓w_nil, ↓w_cons, ↓g_comp, ↓g_comp2, ↓s_for, ↓s_while, ↓g_non, ↓g_bl, ↓g_int, ↓g_str, ↓g_v, ↓g_g, ↓g_get0, ↓g_gets, ↓g_neg, ↓g_bin, ↓g_cmp, ↓g_cmp2, ↓g_and, ↓g_or, ↓g_not, ↓g_ite, ↓g_call, ↓g_callK, ↓g_bi, ↓g_listC, ↓g_rgT, ↓g_rgL, ↓g_isi, ↓g_isiT, ↓g_tup, ↓g_lst, ↓g_ix, ↓g_sl, ↓g_rev, ↓g_app, ↓g_upper, ↓t_and, ↓t_or, ↓t_not, ↓t_ite, ↓t_bl, ↓t_cmp, ↓t_cmp2, ↓t_call, ↓t_callK, ↓t_bi, ↓t_isi, ↓t_isiT, ↓t_ix, ↓l_nil, ↓l_cons, ↓lt_nil, ↓lt_cons, ↓looks_nil, ↓looks_cons, ↓moves_nil, ↓moves_cons, ↓i_seq, ↓i_rng1, ↓i_rng2, ↓i_enum, ↓i_zip, ↓it_list, ↓it_tuple, ↓it_s, ↓gg_n, ↓gg_t, ↓gg_ix, ↓gs_nil, ↓gs_cons, ↓g_tupS, ↓g_lstS, ↓g_lstCS, ↓g_mkL, ↓g_mkC, ↓g_ixT, ↓g_ixL, ↓g_negK, ↓g_asCell, ↓p_nil, ↓p_one, ↓s_pass, ↓s_brk, ↓s_cont, ↓s_never, ↓s_expr, ↓s_ret, ↓s_retN, ↓s_asg, ↓s_par, ↓s_par3, ↓g_rgV, ↓g_rgVK, ↓g_revL, ↓g_revT, ↓s_aug, ↓s_iff, ↓b_add, ↓b_sub, ↓b_mulr, ↓b_mull, ↓b_fdiv, ↓b_mod, ↓b_addLS, ↓b_addTS, ↓q_eqI, ↓q_neI, ↓q_eqB, ↓q_neB, ↓q_lt, ↓q_le, ↓q_gt, ↓q_ge, ↓q_isN, ↓q_isB, ↓q_isnB, ↓isB_b, ↓q_isnN, ↓q_inB, ↓q_notinB, ↓f_lenT, ↓f_lenL, ↓f_int, ↓f_abs, ↓f_max2, ↓f_min2, ↓f_tupleL, ↓f_tupleT, ↓f_listL, ↓f_listT, ↓f_divmod, ↓f_all, ↓f_any, ↓f_sum, ↓a_0, ↓a_1, ↓a_2, ↓t_v, ↓go_nil, ↓go_bind, ↓go_pure, ↓go_lookM, ↓go_lookTM, ↓go_truB, ↓go_noneM, ↓go_moveM, ↓go_ite, ↓go_fin, startE, tyB, isNone, Tgs.len, Exs.len, List.map_cons, List.map_nil, List.length_cons, List.length_nil, List.cons_append, List.nil_append, List.take_length, if_true, Bool.not_false, Bool.not_true, List.set_cons_zero, List.set_cons_succ, Nat.reduceAdd, Nat.reduceSub, List.reduceReplicate, Bool.false_eq_true, if_false, reduceIte, and_self, Bool.true_eq_false, decide_true, decide_false]
        exact ⟨_, rfl, _, _, _, rfl, rfl⟩
      · simp (maxSteps := 2000000) (disch := first | omega | assumption | (simp only [List.length_map, List.length_append, List.length_cons, List.length_nil, List.length_take, List.length_drop, List.length_reverse, List.length_replicate]; omega)) only [c0, ex_of kargs2, ↓w_nil, ↓w_cons, ↓g_comp, ↓g_comp2, ↓s_for, ↓s_while, ↓g_non, ↓g_bl, ↓g_int, ↓g_str, ↓g_v, ↓g_g, ↓g_get0, ↓g_gets, ↓g_neg, ↓g_bin, ↓g_cmp, ↓g_cmp2, ↓g_and, ↓g_or, ↓g_not, ↓g_ite, ↓g_call, ↓g_callK, ↓g_bi, ↓g_listC, ↓g_rgT, ↓g_rgL, ↓g_isi, ↓g_isiT, ↓g_tup, ↓g_lst, ↓g_ix, ↓g_sl, ↓g_rev, ↓g_app, ↓g_upper, ↓t_and, ↓t_or, ↓t_not, ↓t_ite, ↓t_bl, ↓t_cmp, ↓t_cmp2, ↓t_call, ↓t_callK, ↓t_bi, ↓t_isi, ↓t_isiT, ↓t_ix, ↓l_nil, ↓l_cons, ↓lt_nil, ↓lt_cons, ↓looks_nil, ↓looks_cons, ↓moves_nil, ↓moves_cons, ↓i_seq, ↓i_rng1, ↓i_rng2, ↓i_enum, ↓i_zip, ↓it_list, ↓it_tuple, ↓it_s, ↓gg_n, ↓gg_t, ↓gg_ix, ↓gs_nil, ↓gs_cons, ↓g_tupS, ↓g_lstS, ↓g_lstCS, ↓g_mkL, ↓g_mkC, ↓g_ixT, ↓g_ixL, ↓g_negK, ↓g_asCell, ↓p_nil, ↓p_one, ↓s_pass, ↓s_brk, ↓s_cont, ↓s_never, ↓s_expr, ↓s_ret, ↓s_retN, ↓s_asg, ↓s_par, ↓s_par3, ↓g_rgV, ↓g_rgVK, ↓g_revL, ↓g_revT, ↓s_aug, ↓s_iff, ↓b_add, ↓b_sub, ↓b_mulr, ↓b_mull, ↓b_fdiv, ↓b_mod, ↓b_addLS, ↓b_addTS, ↓q_eqI, ↓q_neI, ↓q_eqB, ↓q_neB, ↓q_lt, ↓q_le, ↓q_gt, ↓q_ge, ↓q_isN, ↓q_isB, ↓q_isnB, ↓isB_b, ↓q_isnN, ↓q_inB, ↓q_notinB, ↓f_lenT, ↓f_lenL, ↓f_int, ↓f_abs, ↓f_max2, ↓f_min2, ↓f_tupleL, ↓f_tupleT, ↓f_listL, ↓f_listT, ↓f_divmod, ↓f_all, ↓f_any, ↓f_sum, ↓a_0, ↓a_1, ↓a_2, ↓t_v, ↓go_nil, ↓go_bind, ↓go_pure, ↓go_lookM, ↓go_lookTM, ↓go_truB, ↓go_noneM, ↓go_moveM, ↓go_ite, ↓go_fin, startE, tyB, isNone, Tgs.len, Exs.len, List.map_cons, List.map_nil, List.length_cons, List.length_nil, List.cons_append, List.nil_append, List.take_length, if_true, Bool.not_false, Bool.not_true, List.set_cons_zero, List.set_cons_succ, Nat.reduceAdd, Nat.reduceSub, List.reduceReplicate, Bool.false_eq_true, if_false, reduceIte, and_self, Bool.true_eq_false, decide_true, decide_false]
        refine s27 (by omega) hp hq' ?_
        try simp (maxSteps := 2000000) (disch := first | omega | assumption | (simp only [List.length_map, List.length_append, List.length_cons, List.length_nil, List.length_take, List.length_drop, List.length_reverse, List.length_replicate]; omega)) only [↓w_nil, ↓w_cons, ↓g_comp, ↓g_comp2, ↓s_for, ↓s_while, ↓g_non, ↓g_bl, ↓g_int, ↓g_str, ↓g_v, ↓g_g, ↓g_get0, ↓g_gets, ↓g_neg, ↓g_bin, ↓g_cmp, ↓g_cmp2, ↓g_and, ↓g_or, ↓g_not, ↓g_ite, ↓g_call, ↓g_callK, ↓g_bi, ↓g_listC, ↓g_rgT, ↓g_rgL, ↓g_isi, ↓g_isiT, ↓g_tup, ↓g_lst, ↓g_ix, ↓g_sl, ↓g_rev, ↓g_app, ↓g_upper, ↓t_and, ↓t_or, ↓t_not, ↓t_ite, ↓t_bl, ↓t_cmp, ↓t_cmp2, ↓t_call, ↓t_callK, ↓t_bi, ↓t_isi, ↓t_isiT, ↓t_ix, ↓l_nil, ↓l_cons, ↓lt_nil, ↓lt_cons, ↓looks_nil, ↓looks_cons, ↓moves_nil, ↓moves_cons, ↓i_seq, ↓i_rng1, ↓i_rng2, ↓i_enum, ↓i_zip, ↓it_list, ↓it_tuple, ↓it_s, ↓gg_n, ↓gg_t, ↓gg_ix, ↓gs_nil, ↓gs_cons, ↓g_tupS, ↓g_lstS, ↓g_lstCS, ↓g_mkL, ↓g_mkC, ↓g_ixT, ↓g_ixL, ↓g_negK, ↓g_asCell, ↓p_nil, ↓p_one, ↓s_pass, ↓s_brk, ↓s_cont, ↓s_never, ↓s_expr, ↓s_ret, ↓s_retN, ↓s_asg, ↓s_par, ↓s_par3, ↓g_rgV, ↓g_rgVK, ↓g_revL, ↓g_revT, ↓s_aug, ↓s_iff, ↓b_add, ↓b_sub, ↓b_mulr, ↓b_mull, ↓b_fdiv, ↓b_mod, ↓b_addLS, ↓b_addTS, ↓q_eqI, ↓q_neI, ↓q_eqB, ↓q_neB, ↓q_lt, ↓q_le, ↓q_gt, ↓q_ge, ↓q_isN, ↓q_isB, ↓q_isnB, ↓isB_b, ↓q_isnN, ↓q_inB, ↓q_notinB, ↓f_lenT, ↓f_lenL, ↓f_int, ↓f_abs, ↓f_max2, ↓f_min2, ↓f_tupleL, ↓f_tupleT, ↓f_listL, ↓f_listT, ↓f_divmod, ↓f_all, ↓f_any, ↓f_sum, ↓a_0, ↓a_1, ↓a_2, ↓t_v, ↓go_nil, ↓go_bind, ↓go_pure, ↓go_lookM, ↓go_lookTM, ↓go_truB, ↓go_noneM, ↓go_moveM, ↓go_ite, ↓go_fin, startE, tyB, isNone, Tgs.len, Exs.len, List.map_cons, List.map_nil, List.length_cons, List.length_nil, List.cons_append, List.nil_append, List.take_length, if_true, Bool.not_false, Bool.not_true, List.set_cons_zero, List.set_cons_succ, Nat.reduceAdd, Nat.reduceSub, List.reduceReplicate, Bool.false_eq_true, if_false, reduceIte, and_self, Bool.true_eq_false, decide_true, decide_false]
        exact ⟨_, rfl, _, _, _, rfl, rfl⟩
    rintro ρ s ⟨x, y, z, rfl, rfl⟩
    refine go_seq (fun ρ s => ∃ x y z, ρ = [some (.r c), some (.d (plD p)), some (.d (plD q)), some (.d (optD (lg p q))), some (.d (.bool (lg p q).isNone)), some (.d (optD (lg p q))), none, none] ∧ s = U st c x y z) ?_ ?_
    · simp (maxSteps := 2000000) (disch := first | omega | assumption | (simp only [List.length_map, List.length_append, List.length_cons, List.length_nil, List.length_take, List.length_drop, List.length_reverse, List.length_replicate]; omega)) only [↓w_nil, ↓w_cons, ↓g_comp, ↓g_comp2, ↓s_for, ↓s_while, ↓g_non, ↓g_bl, ↓g_int, ↓g_str, ↓g_v, ↓g_g, ↓g_get0, ↓g_gets, ↓g_neg, ↓g_bin, ↓g_cmp, ↓g_cmp2, ↓g_and, ↓g_or, ↓g_not, ↓g_ite, ↓g_call, ↓g_callK, ↓g_bi, ↓g_listC, ↓g_rgT, ↓g_rgL, ↓g_isi, ↓g_isiT, ↓g_tup, ↓g_lst, ↓g_ix, ↓g_sl, ↓g_rev, ↓g_app, ↓g_upper, ↓t_and, ↓t_or, ↓t_not, ↓t_ite, ↓t_bl, ↓t_cmp, ↓t_cmp2, ↓t_call, ↓t_callK, ↓t_bi, ↓t_isi, ↓t_isiT, ↓t_ix, ↓l_nil, ↓l_cons, ↓lt_nil, ↓lt_cons, ↓looks_nil, ↓looks_cons, ↓moves_nil, ↓moves_cons, ↓i_seq, ↓i_rng1, ↓i_rng2, ↓i_enum, ↓i_zip, ↓it_list, ↓it_tuple, ↓it_s, ↓gg_n, ↓gg_t, ↓gg_ix, ↓gs_nil, ↓gs_cons, ↓g_tupS, ↓g_lstS, ↓g_lstCS, ↓g_mkL, ↓g_mkC, ↓g_ixT, ↓g_ixL, ↓g_negK, ↓g_asCell, ↓p_nil, ↓p_one, ↓s_pass, ↓s_brk, ↓s_cont, ↓s_never, ↓s_expr, ↓s_ret, ↓s_retN, ↓s_asg, ↓s_par, ↓s_par3, ↓g_rgV, ↓g_rgVK, ↓g_revL, ↓g_revT, ↓s_aug, ↓s_iff, ↓b_add, ↓b_sub, ↓b_mulr, ↓b_mull, ↓b_fdiv, ↓b_mod, ↓b_addLS, ↓b_addTS, ↓q_eqI, ↓q_neI, ↓q_eqB, ↓q_neB, ↓q_lt, ↓q_le, ↓q_gt, ↓q_ge, ↓q_isN, ↓q_isB, ↓q_isnB, ↓isB_b, ↓q_isnN, ↓q_inB, ↓q_notinB, ↓f_lenT, ↓f_lenL, ↓f_int, ↓f_abs, ↓f_max2, ↓f_min2, ↓f_tupleL, ↓f_tupleT, ↓f_listL, ↓f_listT, ↓f_divmod, ↓f_all, ↓f_any, ↓f_sum, ↓a_0, ↓a_1, ↓a_2, ↓t_v, ↓go_nil, ↓go_bind, ↓go_pure, ↓go_lookM, ↓go_lookTM, ↓go_truB, ↓go_noneM, ↓go_moveM, ↓go_ite, ↓go_fin, startE, tyB, isNone, Tgs.len, Exs.len, List.map_cons, List.map_nil, List.length_cons, List.length_nil, List.cons_append, List.nil_append, List.take_length, if_true, Bool.not_false, Bool.not_true, List.set_cons_zero, List.set_cons_succ, Nat.reduceAdd, Nat.reduceSub, List.reduceReplicate, Bool.false_eq_true, if_false, reduceIte, and_self, Bool.true_eq_false, decide_true, decide_false]
      refine s31 (by omega) h (by omega) (by omega) fun r x1 y1 z1 r0 r1 => ?_
      by_cases c0 : r = 0
      · simp (maxSteps := 2000000) (disch := first | omega | assumption | (simp only [List.length_map, List.length_append, List.length_cons, List.length_nil, List.length_take, List.length_drop, List.length_reverse, List.length_replicate]; omega)) only [c0, ↓w_nil, ↓w_cons, ↓g_comp, ↓g_comp2, ↓s_for, ↓s_while, ↓g_non, ↓g_bl, ↓g_int, ↓g_str, ↓g_v, ↓g_g, ↓g_get0, ↓g_gets, ↓g_neg, ↓g_bin, ↓g_cmp, ↓g_cmp2, ↓g_and, ↓g_or, ↓g_not, ↓g_ite, ↓g_call, ↓g_callK, ↓g_bi, ↓g_listC, ↓g_rgT, ↓g_rgL, ↓g_isi, ↓g_isiT, ↓g_tup, ↓g_lst, ↓g_ix, ↓g_sl, ↓g_rev, ↓g_app, ↓g_upper, ↓t_and, ↓t_or, ↓t_not, ↓t_ite, ↓t_bl, ↓t_cmp, ↓t_cmp2, ↓t_call, ↓t_callK, ↓t_bi, ↓t_isi, ↓t_isiT, ↓t_ix, ↓l_nil, ↓l_cons, ↓lt_nil, ↓lt_cons, ↓looks_nil, ↓looks_cons, ↓moves_nil, ↓moves_cons, ↓i_seq, ↓i_rng1, ↓i_rng2, ↓i_enum, ↓i_zip, ↓it_list, ↓it_tuple, ↓it_s, ↓gg_n, ↓gg_t, ↓gg_ix, ↓gs_nil, ↓gs_cons, ↓g_tupS, ↓g_lstS, ↓g_lstCS, ↓g_mkL, ↓g_mkC, ↓g_ixT, ↓g_ixL, ↓g_negK, ↓g_asCell, ↓p_nil, ↓p_one, ↓s_pass, ↓s_brk, ↓s_cont, ↓s_never, ↓s_expr, ↓s_ret, ↓s_retN, ↓s_asg, ↓s_par, ↓s_par3, ↓g_rgV, ↓g_rgVK, ↓g_revL, ↓g_revT, ↓s_aug, ↓s_iff, ↓b_add, ↓b_sub, ↓b_mulr, ↓b_mull, ↓b_fdiv, ↓b_mod, ↓b_addLS, ↓b_addTS, ↓q_eqI, ↓q_neI, ↓q_eqB, ↓q_neB, ↓q_lt, ↓q_le, ↓q_gt, ↓q_ge, ↓q_isN, ↓q_isB, ↓q_isnB, ↓isB_b, ↓q_isnN, ↓q_inB, ↓q_notinB, ↓f_lenT, ↓f_lenL, ↓f_int, ↓f_abs, ↓f_max2, ↓f_min2, ↓f_tupleL, ↓f_tupleT, ↓f_listL, ↓f_listT, ↓f_divmod, ↓f_all, ↓f_any, ↓f_sum, ↓a_0, ↓a_1, ↓a_2, ↓t_v, ↓go_nil, ↓go_bind, ↓go_pure, ↓go_lookM, ↓go_lookTM, ↓go_truB, ↓go_noneM, ↓go_moveM, ↓go_ite, ↓go_fin, startE, tyB, isNone, Tgs.len, Exs.len, List.map_cons, List.map_nil, List.length_cons, List.length_nil, List.cons_append, List.nil_append, List.take_length, if_true, Bool.not_false, Bool.not_true, List.set_cons_zero, List.set_cons_succ, Nat.reduceAdd, Nat.reduceSub, List.reduceReplicate, Bool.false_eq_true, if_false, reduceIte, and_self, Bool.true_eq_false, decide_true, decide_false]
        refine s28 (by omega) hp hq' ?_
        try simp (maxSteps := 2000000) (disch := first | omega | assumption | (simp only [List.length_map, List.length_append, List.length_cons, List.length_nil, List.length_take, List.length_drop, List.length_reverse, List.length_replicate]; omega)) only [↓w_nil, ↓w_cons, ↓g_comp, ↓g_comp2, ↓s_for, ↓s_while, ↓g_non, ↓g_bl, ↓g_int, ↓g_str, ↓g_v, ↓g_g, ↓g_get0, ↓g_gets, ↓g_neg, ↓g_bin, ↓g_cmp, ↓g_cmp2, ↓g_and, ↓g_or, ↓g_not, ↓g_ite, ↓g_call, ↓g_callK, ↓g_bi, ↓g_listC, ↓g_rgT, ↓g_rgL, ↓g_isi, ↓g_isiT, ↓g_tup, ↓g_lst, ↓g_ix, ↓g_sl, ↓g_rev, ↓g_app, ↓g_upper, ↓t_and, ↓t_or, ↓t_not, ↓t_ite, ↓t_bl, ↓t_cmp, ↓t_cmp2, ↓t_call, ↓t_callK, ↓t_bi, ↓t_isi, ↓t_isiT, ↓t_ix, ↓l_nil, ↓l_cons, ↓lt_nil, ↓lt_cons, ↓looks_nil, ↓looks_cons, ↓moves_nil, ↓moves_cons, ↓i_seq, ↓i_rng1, ↓i_rng2, ↓i_enum, ↓i_zip, ↓it_list, ↓it_tuple, ↓it_s, ↓gg_n, ↓gg_t, ↓gg_ix, ↓gs_nil, ↓gs_cons, ↓g_tupS, ↓g_lstS, ↓g_lstCS, ↓g_mkL, ↓g_mkC, ↓g_ixT, ↓g_ixL, ↓g_negK, ↓g_asCell, ↓p_nil, ↓p_one, ↓s_pass, ↓s_brk, ↓s_cont, ↓s_never, ↓s_expr, ↓s_ret, ↓s_retN, ↓s_asg, ↓s_par, ↓s_par3, ↓g_rgV, ↓g_rgVK, ↓g_revL, ↓g_revT, ↓s_aug, ↓s_iff, ↓b_add, ↓b_sub, ↓b_mulr, ↓b_mull, ↓b_fdiv, ↓b_mod, ↓b_addLS, ↓b_addTS, ↓q_eqI, ↓q_neI, ↓q_eqB, ↓q_neB, ↓q_lt, ↓q_le, ↓q_gt, ↓q_ge, ↓q_isN, ↓q_isB, ↓q_isnB, ↓isB_b, ↓q_isnN, ↓q_inB, ↓q_notinB, ↓f_lenT, ↓f_lenL, ↓f_int, ↓f_abs, ↓f_max2, ↓f_min2, ↓f_tupleL, ↓f_tupleT, ↓f_listL, ↓f_listT, ↓f_divmod, ↓f_all, ↓f_any, ↓f_sum, ↓a_0, ↓a_1, ↓a_2, ↓t_v, ↓go_nil, ↓go_bind, ↓go_pure, ↓go_lookM, ↓go_lookTM, ↓go_truB, ↓go_noneM, ↓go_moveM, ↓go_ite, ↓go_fin, startE, tyB, isNone, Tgs.len, Exs.len, List.map_cons, List.map_nil, List.length_cons, List.length_nil, List.cons_append, List.nil_append, List.take_length, if_true, Bool.not_false, Bool.not_true, List.set_cons_zero, List.set_cons_succ, Nat.reduceAdd, Nat.reduceSub, List.reduceReplicate, Bool.false_eq_true, if_false, reduceIte, and_self, Bool.true_eq_false, decide_true, decide_false]
        exact ⟨_, rfl, _, _, _, rfl, rfl⟩
      · simp (maxSteps := 2000000) (disch := first | omega | assumption | (simp only [List.length_map, List.length_append, List.length_cons, List.length_nil, List.length_take, List.length_drop, List.length_reverse, List.length_replicate]; omega)) only [c0, ex_of kargs2, ↓w_nil, ↓w_cons, ↓g_comp, ↓g_comp2, ↓s_for, ↓s_while, ↓g_non, ↓g_bl, ↓g_int, ↓g_str, ↓g_v, ↓g_g, ↓g_get0, ↓g_gets, ↓g_neg, ↓g_bin, ↓g_cmp, ↓g_cmp2, ↓g_and, ↓g_or, ↓g_not, ↓g_ite, ↓g_call, ↓g_callK, ↓g_bi, ↓g_listC, ↓g_rgT, ↓g_rgL, ↓g_isi, ↓g_isiT, ↓g_tup, ↓g_lst, ↓g_ix, ↓g_sl, ↓g_rev, ↓g_app, ↓g_upper, ↓t_and, ↓t_or, ↓t_not, ↓t_ite, ↓t_bl, ↓t_cmp, ↓t_cmp2, ↓t_call, ↓t_callK, ↓t_bi, ↓t_isi, ↓t_isiT, ↓t_ix, ↓l_nil, ↓l_cons, ↓lt_nil, ↓lt_cons, ↓looks_nil, ↓looks_cons, ↓moves_nil, ↓moves_cons, ↓i_seq, ↓i_rng1, ↓i_rng2, ↓i_enum, ↓i_zip, ↓it_list, ↓it_tuple, ↓it_s, ↓gg_n, ↓gg_t, ↓gg_ix, ↓gs_nil, ↓gs_cons, ↓g_tupS, ↓g_lstS, ↓g_lstCS, ↓g_mkL, ↓g_mkC, ↓g_ixT, ↓g_ixL, ↓g_negK, ↓g_asCell, ↓p_nil, ↓p_one, ↓s_pass, ↓s_brk, ↓s_cont, ↓s_never, ↓s_expr, ↓s_ret, ↓s_retN, ↓s_asg, ↓s_par, ↓s_par3, ↓g_rgV, ↓g_rgVK, ↓g_revL, ↓g_revT, ↓s_aug, ↓s_iff, ↓b_add, ↓b_sub, ↓b_mulr, ↓b_mull, ↓b_fdiv, ↓b_mod, ↓b_addLS, ↓b_addTS, ↓q_eqI, ↓q_neI, ↓q_eqB, ↓q_neB, ↓q_lt, ↓q_le, ↓q_gt, ↓q_ge, ↓q_isN, ↓q_isB, ↓q_isnB, ↓isB_b, ↓q_isnN, ↓q_inB, ↓q_notinB, ↓f_lenT, ↓f_lenL, ↓f_int, ↓f_abs, ↓f_max2, ↓f_min2, ↓f_tupleL, ↓f_tupleT, ↓f_listL, ↓f_listT, ↓f_divmod, ↓f_all, ↓f_any, ↓f_sum, ↓a_0, ↓a_1, ↓a_2, ↓t_v, ↓go_nil, ↓go_bind, ↓go_pure, ↓go_lookM, ↓go_lookTM, ↓go_truB, ↓go_noneM, ↓go_moveM, ↓go_ite, ↓go_fin, startE, tyB, isNone, Tgs.len, Exs.len, List.map_cons, List.map_nil, List.length_cons, List.length_nil, List.cons_append, List.nil_append, List.take_length, if_true, Bool.not_false, Bool.not_true, List.set_cons_zero, List.set_cons_succ, Nat.reduceAdd, Nat.reduceSub, List.reduceReplicate, Bool.false_eq_true, if_false, reduceIte, and_self, Bool.true_eq_false, decide_true, decide_false]
        refine s28 (by omega) hp hq' ?_
        try simp (maxSteps := 2000000) (disch := first | omega | assumption | (simp only [List.length_map, List.length_append, List.length_cons, List.length_nil, List.length_take, List.length_drop, List.length_reverse, List.length_replicate]; omega)) only [↓w_nil, ↓w_cons, ↓g_comp, ↓g_comp2, ↓s_for, ↓s_while, ↓g_non, ↓g_bl, ↓g_int, ↓g_str, ↓g_v, ↓g_g, ↓g_get0, ↓g_gets, ↓g_neg, ↓g_bin, ↓g_cmp, ↓g_cmp2, ↓g_and, ↓g_or, ↓g_not, ↓g_ite, ↓g_call, ↓g_callK, ↓g_bi, ↓g_listC, ↓g_rgT, ↓g_rgL, ↓g_isi, ↓g_isiT, ↓g_tup, ↓g_lst, ↓g_ix, ↓g_sl, ↓g_rev, ↓g_app, ↓g_upper, ↓t_and, ↓t_or, ↓t_not, ↓t_ite, ↓t_bl, ↓t_cmp, ↓t_cmp2, ↓t_call, ↓t_callK, ↓t_bi, ↓t_isi, ↓t_isiT, ↓t_ix, ↓l_nil, ↓l_cons, ↓lt_nil, ↓lt_cons, ↓looks_nil, ↓looks_cons, ↓moves_nil, ↓moves_cons, ↓i_seq, ↓i_rng1, ↓i_rng2, ↓i_enum, ↓i_zip, ↓it_list, ↓it_tuple, ↓it_s, ↓gg_n, ↓gg_t, ↓gg_ix, ↓gs_nil, ↓gs_cons, ↓g_tupS, ↓g_lstS, ↓g_lstCS, ↓g_mkL, ↓g_mkC, ↓g_ixT, ↓g_ixL, ↓g_negK, ↓g_asCell, ↓p_nil, ↓p_one, ↓s_pass, ↓s_brk, ↓s_cont, ↓s_never, ↓s_expr, ↓s_ret, ↓s_retN, ↓s_asg, ↓s_par, ↓s_par3, ↓g_rgV, ↓g_rgVK, ↓g_revL, ↓g_revT, ↓s_aug, ↓s_iff, ↓b_add, ↓b_sub, ↓b_mulr, ↓b_mull, ↓b_fdiv, ↓b_mod, ↓b_addLS, ↓b_addTS, ↓q_eqI, ↓q_neI, ↓q_eqB, ↓q_neB, ↓q_lt, ↓q_le, ↓q_gt, ↓q_ge, ↓q_isN, ↓q_isB, ↓q_isnB, ↓isB_b, ↓q_isnN, ↓q_inB, ↓q_notinB, ↓f_lenT, ↓f_lenL, ↓f_int, ↓f_abs, ↓f_max2, ↓f_min2, ↓f_tupleL, ↓f_tupleT, ↓f_listL, ↓f_listT, ↓f_divmod, ↓f_all, ↓f_any, ↓f_sum, ↓a_0, ↓a_1, ↓a_2, ↓t_v, ↓go_nil, ↓go_bind, ↓go_pure, ↓go_lookM, ↓go_lookTM, ↓go_truB, ↓go_noneM, ↓go_moveM, ↓go_ite, ↓go_fin, startE, tyB, isNone, Tgs.len, Exs.len, List.map_cons, List.map_nil, List.length_cons, List.length_nil, List.cons_append, List.nil_append, List.take_length, if_true, Bool.not_false, Bool.not_true, List.set_cons_zero, List.set_cons_succ, Nat.reduceAdd, Nat.reduceSub, List.reduceReplicate, Bool.false_eq_true, if_false, reduceIte, and_self, Bool.true_eq_false, decide_true, decide_false]
        exact ⟨_, rfl, _, _, _, rfl, rfl⟩
    rintro ρ s ⟨x, y, z, rfl, rfl⟩
    obtain ⟨o, ho⟩ : ∃ o, o = lg p q := ⟨_, rfl⟩
    have hN := lg_none hp hq'
    have hS : ∀ a b, lg p q = some (a, b) → Sok a b ∧ tail' q a b < tail' p a b := fun a b e => ⟨Sok.of_win hP (lg_some e).1, (lg_some e).2⟩
    rw [← ho] at hN hS ⊢
    refine go_next (ρ1 := [some (.r c), some (.d (plD p)), some (.d (plD q)), some (.d (optD o)), some (.d (.bool o.isNone)), some (.d (optD o)), none, none]) ?_ ?_
    · cases o with
      | none => simp (maxSteps := 2000000) (disch := first | omega | assumption | (simp only [List.length_map, List.length_append, List.length_cons, List.length_nil, List.length_take, List.length_drop, List.length_reverse, List.length_replicate]; omega)) only [optD, s35, Option.isNone, BEq.rfl, ↓w_nil, ↓w_cons, ↓g_comp, ↓g_comp2, ↓s_for, ↓s_while, ↓g_non, ↓g_bl, ↓g_int, ↓g_str, ↓g_v, ↓g_g, ↓g_get0, ↓g_gets, ↓g_neg, ↓g_bin, ↓g_cmp, ↓g_cmp2, ↓g_and, ↓g_or, ↓g_not, ↓g_ite, ↓g_call, ↓g_callK, ↓g_bi, ↓g_listC, ↓g_rgT, ↓g_rgL, ↓g_isi, ↓g_isiT, ↓g_tup, ↓g_lst, ↓g_ix, ↓g_sl, ↓g_rev, ↓g_app, ↓g_upper, ↓t_and, ↓t_or, ↓t_not, ↓t_ite, ↓t_bl, ↓t_cmp, ↓t_cmp2, ↓t_call, ↓t_callK, ↓t_bi, ↓t_isi, ↓t_isiT, ↓t_ix, ↓l_nil, ↓l_cons, ↓lt_nil, ↓lt_cons, ↓looks_nil, ↓looks_cons, ↓moves_nil, ↓moves_cons, ↓i_seq, ↓i_rng1, ↓i_rng2, ↓i_enum, ↓i_zip, ↓it_list, ↓it_tuple, ↓it_s, ↓gg_n, ↓gg_t, ↓gg_ix, ↓gs_nil, ↓gs_cons, ↓g_tupS, ↓g_lstS, ↓g_lstCS, ↓g_mkL, ↓g_mkC, ↓g_ixT, ↓g_ixL, ↓g_negK, ↓g_asCell, ↓p_nil, ↓p_one, ↓s_pass, ↓s_brk, ↓s_cont, ↓s_never, ↓s_expr, ↓s_ret, ↓s_retN, ↓s_asg, ↓s_par, ↓s_par3, ↓g_rgV, ↓g_rgVK, ↓g_revL, ↓g_revT, ↓s_aug, ↓s_iff, ↓b_add, ↓b_sub, ↓b_mulr, ↓b_mull, ↓b_fdiv, ↓b_mod, ↓b_addLS, ↓b_addTS, ↓q_eqI, ↓q_neI, ↓q_eqB, ↓q_neB, ↓q_lt, ↓q_le, ↓q_gt, ↓q_ge, ↓q_isN, ↓q_isB, ↓q_isnB, ↓isB_b, ↓q_isnN, ↓q_inB, ↓q_notinB, ↓f_lenT, ↓f_lenL, ↓f_int, ↓f_abs, ↓f_max2, ↓f_min2, ↓f_tupleL, ↓f_tupleT, ↓f_listL, ↓f_listT, ↓f_divmod, ↓f_all, ↓f_any, ↓f_sum, ↓a_0, ↓a_1, ↓a_2, ↓t_v, ↓go_cons, ↓go_nil, ↓go_bind, ↓go_pure, ↓go_lookM, ↓go_lookTM, ↓go_truB, ↓go_noneM, ↓go_moveM, ↓go_ite, ↓go_fin, startE, tyB, isNone, Tgs.len, Exs.len, List.map_cons, List.map_nil, List.length_cons, List.length_nil, List.cons_append, List.nil_append, List.take_length, if_true, Bool.not_false, Bool.not_true, List.set_cons_zero, List.set_cons_succ, Nat.reduceAdd, Nat.reduceSub, List.reduceReplicate, Bool.false_eq_true, if_false, reduceIte, and_self, Bool.true_eq_false, decide_true, decide_false]
      | some w => simp (maxSteps := 2000000) (disch := first | omega | assumption | (simp only [List.length_map, List.length_append, List.length_cons, List.length_nil, List.length_take, List.length_drop, List.length_reverse, List.length_replicate]; omega)) only [optD, pD, s35, Option.isNone, BEq.rfl, ↓w_nil, ↓w_cons, ↓g_comp, ↓g_comp2, ↓s_for, ↓s_while, ↓g_non, ↓g_bl, ↓g_int, ↓g_str, ↓g_v, ↓g_g, ↓g_get0, ↓g_gets, ↓g_neg, ↓g_bin, ↓g_cmp, ↓g_cmp2, ↓g_and, ↓g_or, ↓g_not, ↓g_ite, ↓g_call, ↓g_callK, ↓g_bi, ↓g_listC, ↓g_rgT, ↓g_rgL, ↓g_isi, ↓g_isiT, ↓g_tup, ↓g_lst, ↓g_ix, ↓g_sl, ↓g_rev, ↓g_app, ↓g_upper, ↓t_and, ↓t_or, ↓t_not, ↓t_ite, ↓t_bl, ↓t_cmp, ↓t_cmp2, ↓t_call, ↓t_callK, ↓t_bi, ↓t_isi, ↓t_isiT, ↓t_ix, ↓l_nil, ↓l_cons, ↓lt_nil, ↓lt_cons, ↓looks_nil, ↓looks_cons, ↓moves_nil, ↓moves_cons, ↓i_seq, ↓i_rng1, ↓i_rng2, ↓i_enum, ↓i_zip, ↓it_list, ↓it_tuple, ↓it_s, ↓gg_n, ↓gg_t, ↓gg_ix, ↓gs_nil, ↓gs_cons, ↓g_tupS, ↓g_lstS, ↓g_lstCS, ↓g_mkL, ↓g_mkC, ↓g_ixT, ↓g_ixL, ↓g_negK, ↓g_asCell, ↓p_nil, ↓p_one, ↓s_pass, ↓s_brk, ↓s_cont, ↓s_never, ↓s_expr, ↓s_ret, ↓s_retN, ↓s_asg, ↓s_par, ↓s_par3, ↓g_rgV, ↓g_rgVK, ↓g_revL, ↓g_revT, ↓s_aug, ↓s_iff, ↓b_add, ↓b_sub, ↓b_mulr, ↓b_mull, ↓b_fdiv, ↓b_mod, ↓b_addLS, ↓b_addTS, ↓q_eqI, ↓q_neI, ↓q_eqB, ↓q_neB, ↓q_lt, ↓q_le, ↓q_gt, ↓q_ge, ↓q_isN, ↓q_isB, ↓q_isnB, ↓isB_b, ↓q_isnN, ↓q_inB, ↓q_notinB, ↓f_lenT, ↓f_lenL, ↓f_int, ↓f_abs, ↓f_max2, ↓f_min2, ↓f_tupleL, ↓f_tupleT, ↓f_listL, ↓f_listT, ↓f_divmod, ↓f_all, ↓f_any, ↓f_sum, ↓a_0, ↓a_1, ↓a_2, ↓t_v, ↓go_cons, ↓go_nil, ↓go_bind, ↓go_pure, ↓go_lookM, ↓go_lookTM, ↓go_truB, ↓go_noneM, ↓go_moveM, ↓go_ite, ↓go_fin, startE, tyB, isNone, Tgs.len, Exs.len, List.map_cons, List.map_nil, List.length_cons, List.length_nil, List.cons_append, List.nil_append, List.take_length, if_true, Bool.not_false, Bool.not_true, List.set_cons_zero, List.set_cons_succ, Nat.reduceAdd, Nat.reduceSub, List.reduceReplicate, Bool.false_eq_true, if_false, reduceIte, and_self, Bool.true_eq_false, decide_true, decide_false]
    refine go_next (ρ1 := [some (.r c), some (.d (plD p)), some (.d (plD q)), some (.d (optD o)), some (.d (.bool o.isNone)), some (.d (optD o)), none, none]) ?_ ?_
    · cases o with
      | none => simp (maxSteps := 2000000) (disch := first | omega | assumption | (simp only [List.length_map, List.length_append, List.length_cons, List.length_nil, List.length_take, List.length_drop, List.length_reverse, List.length_replicate]; omega)) only [optD, ↓w_nil, ↓w_cons, ↓g_comp, ↓g_comp2, ↓s_for, ↓s_while, ↓g_non, ↓g_bl, ↓g_int, ↓g_str, ↓g_v, ↓g_g, ↓g_get0, ↓g_gets, ↓g_neg, ↓g_bin, ↓g_cmp, ↓g_cmp2, ↓g_and, ↓g_or, ↓g_not, ↓g_ite, ↓g_call, ↓g_callK, ↓g_bi, ↓g_listC, ↓g_rgT, ↓g_rgL, ↓g_isi, ↓g_isiT, ↓g_tup, ↓g_lst, ↓g_ix, ↓g_sl, ↓g_rev, ↓g_app, ↓g_upper, ↓t_and, ↓t_or, ↓t_not, ↓t_ite, ↓t_bl, ↓t_cmp, ↓t_cmp2, ↓t_call, ↓t_callK, ↓t_bi, ↓t_isi, ↓t_isiT, ↓t_ix, ↓l_nil, ↓l_cons, ↓lt_nil, ↓lt_cons, ↓looks_nil, ↓looks_cons, ↓moves_nil, ↓moves_cons, ↓i_seq, ↓i_rng1, ↓i_rng2, ↓i_enum, ↓i_zip, ↓it_list, ↓it_tuple, ↓it_s, ↓gg_n, ↓gg_t, ↓gg_ix, ↓gs_nil, ↓gs_cons, ↓g_tupS, ↓g_lstS, ↓g_lstCS, ↓g_mkL, ↓g_mkC, ↓g_ixT, ↓g_ixL, ↓g_negK, ↓g_asCell, ↓p_nil, ↓p_one, ↓s_pass, ↓s_brk, ↓s_cont, ↓s_never, ↓s_expr, ↓s_ret, ↓s_retN, ↓s_asg, ↓s_par, ↓s_par3, ↓g_rgV, ↓g_rgVK, ↓g_revL, ↓g_revT, ↓s_aug, ↓s_iff, ↓b_add, ↓b_sub, ↓b_mulr, ↓b_mull, ↓b_fdiv, ↓b_mod, ↓b_addLS, ↓b_addTS, ↓q_eqI, ↓q_neI, ↓q_eqB, ↓q_neB, ↓q_lt, ↓q_le, ↓q_gt, ↓q_ge, ↓q_isN, ↓q_isB, ↓q_isnB, ↓isB_b, ↓q_isnN, ↓q_inB, ↓q_notinB, ↓f_lenT, ↓f_lenL, ↓f_int, ↓f_abs, ↓f_max2, ↓f_min2, ↓f_tupleL, ↓f_tupleT, ↓f_listL, ↓f_listT, ↓f_divmod, ↓f_all, ↓f_any, ↓f_sum, ↓a_0, ↓a_1, ↓a_2, ↓t_v, ↓go_cons, ↓go_nil, ↓go_bind, ↓go_pure, ↓go_lookM, ↓go_lookTM, ↓go_truB, ↓go_noneM, ↓go_moveM, ↓go_ite, ↓go_fin, startE, tyB, isNone, Tgs.len, Exs.len, List.map_cons, List.map_nil, List.length_cons, List.length_nil, List.cons_append, List.nil_append, List.take_length, if_true, Bool.not_false, Bool.not_true, List.set_cons_zero, List.set_cons_succ, Nat.reduceAdd, Nat.reduceSub, List.reduceReplicate, Bool.false_eq_true, if_false, reduceIte, and_self, Bool.true_eq_false, decide_true, decide_false]
      | some w =>
        obtain ⟨hs, ht⟩ := hS w.1 w.2 rfl
        have ht' : ¬ tail' p w.1 w.2 ≤ tail' q w.1 w.2 := by omega
        simp (maxSteps := 2000000) (disch := first | omega | assumption | (simp only [List.length_map, List.length_append, List.length_cons, List.length_nil, List.length_take, List.length_drop, List.length_reverse, List.length_replicate]; omega)) only [optD, pD, s36 _ hs, ↓w_nil, ↓w_cons, ↓g_comp, ↓g_comp2, ↓s_for, ↓s_while, ↓g_non, ↓g_bl, ↓g_int, ↓g_str, ↓g_v, ↓g_g, ↓g_get0, ↓g_gets, ↓g_neg, ↓g_bin, ↓g_cmp, ↓g_cmp2, ↓g_and, ↓g_or, ↓g_not, ↓g_ite, ↓g_call, ↓g_callK, ↓g_bi, ↓g_listC, ↓g_rgT, ↓g_rgL, ↓g_isi, ↓g_isiT, ↓g_tup, ↓g_lst, ↓g_ix, ↓g_sl, ↓g_rev, ↓g_app, ↓g_upper, ↓t_and, ↓t_or, ↓t_not, ↓t_ite, ↓t_bl, ↓t_cmp, ↓t_cmp2, ↓t_call, ↓t_callK, ↓t_bi, ↓t_isi, ↓t_isiT, ↓t_ix, ↓l_nil, ↓l_cons, ↓lt_nil, ↓lt_cons, ↓looks_nil, ↓looks_cons, ↓moves_nil, ↓moves_cons, ↓i_seq, ↓i_rng1, ↓i_rng2, ↓i_enum, ↓i_zip, ↓it_list, ↓it_tuple, ↓it_s, ↓gg_n, ↓gg_t, ↓gg_ix, ↓gs_nil, ↓gs_cons, ↓g_tupS, ↓g_lstS, ↓g_lstCS, ↓g_mkL, ↓g_mkC, ↓g_ixT, ↓g_ixL, ↓g_negK, ↓g_asCell, ↓p_nil, ↓p_one, ↓s_pass, ↓s_brk, ↓s_cont, ↓s_never, ↓s_expr, ↓s_ret, ↓s_retN, ↓s_asg, ↓s_par, ↓s_par3, ↓g_rgV, ↓g_rgVK, ↓g_revL, ↓g_revT, ↓s_aug, ↓s_iff, ↓b_add, ↓b_sub, ↓b_mulr, ↓b_mull, ↓b_fdiv, ↓b_mod, ↓b_addLS, ↓b_addTS, ↓q_eqI, ↓q_neI, ↓q_eqB, ↓q_neB, ↓q_lt, ↓q_le, ↓q_gt, ↓q_ge, ↓q_isN, ↓q_isB, ↓q_isnB, ↓isB_b, ↓q_isnN, ↓q_inB, ↓q_notinB, ↓f_lenT, ↓f_lenL, ↓f_int, ↓f_abs, ↓f_max2, ↓f_min2, ↓f_tupleL, ↓f_tupleT, ↓f_listL, ↓f_listT, ↓f_divmod, ↓f_all, ↓f_any, ↓f_sum, ↓a_0, ↓a_1, ↓a_2, ↓t_v, ↓go_cons, ↓go_nil, ↓go_bind, ↓go_pure, ↓go_lookM, ↓go_lookTM, ↓go_truB, ↓go_noneM, ↓go_moveM, ↓go_ite, ↓go_fin, startE, tyB, isNone, Tgs.len, Exs.len, List.map_cons, List.map_nil, List.length_cons, List.length_nil, List.cons_append, List.nil_append, List.take_length, if_true, Bool.not_false, Bool.not_true, List.set_cons_zero, List.set_cons_succ, Nat.reduceAdd, Nat.reduceSub, List.reduceReplicate, Bool.false_eq_true, if_false, reduceIte, and_self, Bool.true_eq_false, decide_true, decide_false]
        refine s38 (by omega) hp ?_
        simp (maxSteps := 2000000) (disch := first | omega | assumption | (simp only [List.length_map, List.length_append, List.length_cons, List.length_nil, List.length_take, List.length_drop, List.length_reverse, List.length_replicate]; omega)) only [↓w_nil, ↓w_cons, ↓g_comp, ↓g_comp2, ↓s_for, ↓s_while, ↓g_non, ↓g_bl, ↓g_int, ↓g_str, ↓g_v, ↓g_g, ↓g_get0, ↓g_gets, ↓g_neg, ↓g_bin, ↓g_cmp, ↓g_cmp2, ↓g_and, ↓g_or, ↓g_not, ↓g_ite, ↓g_call, ↓g_callK, ↓g_bi, ↓g_listC, ↓g_rgT, ↓g_rgL, ↓g_isi, ↓g_isiT, ↓g_tup, ↓g_lst, ↓g_ix, ↓g_sl, ↓g_rev, ↓g_app, ↓g_upper, ↓t_and, ↓t_or, ↓t_not, ↓t_ite, ↓t_bl, ↓t_cmp, ↓t_cmp2, ↓t_call, ↓t_callK, ↓t_bi, ↓t_isi, ↓t_isiT, ↓t_ix, ↓l_nil, ↓l_cons, ↓lt_nil, ↓lt_cons, ↓looks_nil, ↓looks_cons, ↓moves_nil, ↓moves_cons, ↓i_seq, ↓i_rng1, ↓i_rng2, ↓i_enum, ↓i_zip, ↓it_list, ↓it_tuple, ↓it_s, ↓gg_n, ↓gg_t, ↓gg_ix, ↓gs_nil, ↓gs_cons, ↓g_tupS, ↓g_lstS, ↓g_lstCS, ↓g_mkL, ↓g_mkC, ↓g_ixT, ↓g_ixL, ↓g_negK, ↓g_asCell, ↓p_nil, ↓p_one, ↓s_pass, ↓s_brk, ↓s_cont, ↓s_never, ↓s_expr, ↓s_ret, ↓s_retN, ↓s_asg, ↓s_par, ↓s_par3, ↓g_rgV, ↓g_rgVK, ↓g_revL, ↓g_revT, ↓s_aug, ↓s_iff, ↓b_add, ↓b_sub, ↓b_mulr, ↓b_mull, ↓b_fdiv, ↓b_mod, ↓b_addLS, ↓b_addTS, ↓q_eqI, ↓q_neI, ↓q_eqB, ↓q_neB, ↓q_lt, ↓q_le, ↓q_gt, ↓q_ge, ↓q_isN, ↓q_isB, ↓q_isnB, ↓isB_b, ↓q_isnN, ↓q_inB, ↓q_notinB, ↓f_lenT, ↓f_lenL, ↓f_int, ↓f_abs, ↓f_max2, ↓f_min2, ↓f_tupleL, ↓f_tupleT, ↓f_listL, ↓f_listT, ↓f_divmod, ↓f_all, ↓f_any, ↓f_sum, ↓a_0, ↓a_1, ↓a_2, ↓t_v, ↓go_cons, ↓go_nil, ↓go_bind, ↓go_pure, ↓go_lookM, ↓go_lookTM, ↓go_truB, ↓go_noneM, ↓go_moveM, ↓go_ite, ↓go_fin, startE, tyB, isNone, Tgs.len, Exs.len, List.map_cons, List.map_nil, List.length_cons, List.length_nil, List.cons_append, List.nil_append, List.take_length, if_true, Bool.not_false, Bool.not_true, List.set_cons_zero, List.set_cons_succ, Nat.reduceAdd, Nat.reduceSub, List.reduceReplicate, Bool.false_eq_true, if_false, reduceIte, and_self, Bool.true_eq_false, decide_true, decide_false]
        refine s38 (by omega) hq' ?_
        simp (maxSteps := 2000000) (disch := first | omega | assumption | (simp only [List.length_map, List.length_append, List.length_cons, List.length_nil, List.length_take, List.length_drop, List.length_reverse, List.length_replicate]; omega)) only [ht', s25 _ hp hs, s25 _ hq' hs, ↓w_nil, ↓w_cons, ↓g_comp, ↓g_comp2, ↓s_for, ↓s_while, ↓g_non, ↓g_bl, ↓g_int, ↓g_str, ↓g_v, ↓g_g, ↓g_get0, ↓g_gets, ↓g_neg, ↓g_bin, ↓g_cmp, ↓g_cmp2, ↓g_and, ↓g_or, ↓g_not, ↓g_ite, ↓g_call, ↓g_callK, ↓g_bi, ↓g_listC, ↓g_rgT, ↓g_rgL, ↓g_isi, ↓g_isiT, ↓g_tup, ↓g_lst, ↓g_ix, ↓g_sl, ↓g_rev, ↓g_app, ↓g_upper, ↓t_and, ↓t_or, ↓t_not, ↓t_ite, ↓t_bl, ↓t_cmp, ↓t_cmp2, ↓t_call, ↓t_callK, ↓t_bi, ↓t_isi, ↓t_isiT, ↓t_ix, ↓l_nil, ↓l_cons, ↓lt_nil, ↓lt_cons, ↓looks_nil, ↓looks_cons, ↓moves_nil, ↓moves_cons, ↓i_seq, ↓i_rng1, ↓i_rng2, ↓i_enum, ↓i_zip, ↓it_list, ↓it_tuple, ↓it_s, ↓gg_n, ↓gg_t, ↓gg_ix, ↓gs_nil, ↓gs_cons, ↓g_tupS, ↓g_lstS, ↓g_lstCS, ↓g_mkL, ↓g_mkC, ↓g_ixT, ↓g_ixL, ↓g_negK, ↓g_asCell, ↓p_nil, ↓p_one, ↓s_pass, ↓s_brk, ↓s_cont, ↓s_never, ↓s_expr, ↓s_ret, ↓s_retN, ↓s_asg, ↓s_par, ↓s_par3, ↓g_rgV, ↓g_rgVK, ↓g_revL, ↓g_revT, ↓s_aug, ↓s_iff, ↓b_add, ↓b_sub, ↓b_mulr, ↓b_mull, ↓b_fdiv, ↓b_mod, ↓b_addLS, ↓b_addTS, ↓q_eqI, ↓q_neI, ↓q_eqB, ↓q_neB, ↓q_lt, ↓q_le, ↓q_gt, ↓q_ge, ↓q_isN, ↓q_isB, ↓q_isnB, ↓isB_b, ↓q_isnN, ↓q_inB, ↓q_notinB, ↓f_lenT, ↓f_lenL, ↓f_int, ↓f_abs, ↓f_max2, ↓f_min2, ↓f_tupleL, ↓f_tupleT, ↓f_listL, ↓f_listT, ↓f_divmod, ↓f_all, ↓f_any, ↓f_sum, ↓a_0, ↓a_1, ↓a_2, ↓t_v, ↓go_cons, ↓go_nil, ↓go_bind, ↓go_pure, ↓go_lookM, ↓go_lookTM, ↓go_truB, ↓go_noneM, ↓go_moveM, ↓go_ite, ↓go_fin, startE, tyB, isNone, Tgs.len, Exs.len, List.map_cons, List.map_nil, List.length_cons, List.length_nil, List.cons_append, List.nil_append, List.take_length, if_true, Bool.not_false, Bool.not_true, List.set_cons_zero, List.set_cons_succ, Nat.reduceAdd, Nat.reduceSub, List.reduceReplicate, Bool.false_eq_true, if_false, reduceIte, and_self, Bool.true_eq_false, decide_true, decide_false]
    refine go_seq (fun ρ s => ∃ (x y z : Int) (x6 x7 : Option Val), ρ = [some (.r c), some (.d (plD p)), some (.d (plD q)), some (.d (optD o)), some (.d (.bool o.isNone)), some (.d (optD o)), x6, x7] ∧ s = U st c x y z) ?_ ?_
    · rw [s_for, i_rng1, g_int, go_lookM, rng1_ok (j := 4) (by decide)]
      refine go_forL (fun xs ρ s => ∃ (x y z : Int) (x6 x7 : Option Val), ρ = [some (.r c), some (.d (plD p)), some (.d (plD q)), some (.d (optD o)), some (.d (.bool o.isNone)), some (.d (optD o)), x6, x7] ∧ s = U st c x y z) ?_ ?_ _ _ _ ⟨x, y, z, none, none, rfl, rfl⟩
      · rintro x0 r ρ s ⟨x, y, z, x6, x7, rfl, rfl⟩
        simp (maxSteps := 2000000) (disch := first | omega | assumption | (simp only [List.length_map, List.length_append, List.length_cons, List.length_nil, List.length_take, List.length_drop, List.length_reverse, List.length_replicate]; omega)) only [↓w_nil, ↓w_cons, ↓g_comp, ↓g_comp2, ↓s_for, ↓s_while, ↓g_non, ↓g_bl, ↓g_int, ↓g_str, ↓g_v, ↓g_g, ↓g_get0, ↓g_gets, ↓g_neg, ↓g_bin, ↓g_cmp, ↓g_cmp2, ↓g_and, ↓g_or, ↓g_not, ↓g_ite, ↓g_call, ↓g_callK, ↓g_bi, ↓g_listC, ↓g_rgT, ↓g_rgL, ↓g_isi, ↓g_isiT, ↓g_tup, ↓g_lst, ↓g_ix, ↓g_sl, ↓g_rev, ↓g_app, ↓g_upper, ↓t_and, ↓t_or, ↓t_not, ↓t_ite, ↓t_bl, ↓t_cmp, ↓t_cmp2, ↓t_call, ↓t_callK, ↓t_bi, ↓t_isi, ↓t_isiT, ↓t_ix, ↓l_nil, ↓l_cons, ↓lt_nil, ↓lt_cons, ↓looks_nil, ↓looks_cons, ↓moves_nil, ↓moves_cons, ↓i_seq, ↓i_rng1, ↓i_rng2, ↓i_enum, ↓i_zip, ↓it_list, ↓it_tuple, ↓it_s, ↓gg_n, ↓gg_t, ↓gg_ix, ↓gs_nil, ↓gs_cons, ↓g_tupS, ↓g_lstS, ↓g_lstCS, ↓g_mkL, ↓g_mkC, ↓g_ixT, ↓g_ixL, ↓g_negK, ↓g_asCell, ↓p_nil, ↓p_one, ↓s_pass, ↓s_brk, ↓s_cont, ↓s_never, ↓s_expr, ↓s_ret, ↓s_retN, ↓s_asg, ↓s_par, ↓s_par3, ↓g_rgV, ↓g_rgVK, ↓g_revL, ↓g_revT, ↓s_aug, ↓s_iff, ↓b_add, ↓b_sub, ↓b_mulr, ↓b_mull, ↓b_fdiv, ↓b_mod, ↓b_addLS, ↓b_addTS, ↓q_eqI, ↓q_neI, ↓q_eqB, ↓q_neB, ↓q_lt, ↓q_le, ↓q_gt, ↓q_ge, ↓q_isN, ↓q_isB, ↓q_isnB, ↓isB_b, ↓q_isnN, ↓q_inB, ↓q_notinB, ↓f_lenT, ↓f_lenL, ↓f_int, ↓f_abs, ↓f_max2, ↓f_min2, ↓f_tupleL, ↓f_tupleT, ↓f_listL, ↓f_listT, ↓f_divmod, ↓f_all, ↓f_any, ↓f_sum, ↓a_0, ↓a_1, ↓a_2, ↓t_v, ↓go_nil, ↓go_bind, ↓go_pure, ↓go_lookM, ↓go_lookTM, ↓go_truB, ↓go_noneM, ↓go_moveM, ↓go_ite, ↓go_fin, startE, tyB, isNone, Tgs.len, Exs.len, List.map_cons, List.map_nil, List.length_cons, List.length_nil, List.cons_append, List.nil_append, List.take_length, if_true, Bool.not_false, Bool.not_true, List.set_cons_zero, List.set_cons_succ, Nat.reduceAdd, Nat.reduceSub, List.reduceReplicate, Bool.false_eq_true, if_false, reduceIte, and_self, Bool.true_eq_false, decide_true, decide_false]
        refine go_cons.mpr ?_
        simp (maxSteps := 2000000) (disch := first | omega | assumption | (simp only [List.length_map, List.length_append, List.length_cons, List.length_nil, List.length_take, List.length_drop, List.length_reverse, List.length_replicate]; omega)) only [↓w_nil, ↓w_cons, ↓g_comp, ↓g_comp2, ↓s_for, ↓s_while, ↓g_non, ↓g_bl, ↓g_int, ↓g_str, ↓g_v, ↓g_g, ↓g_get0, ↓g_gets, ↓g_neg, ↓g_bin, ↓g_cmp, ↓g_cmp2, ↓g_and, ↓g_or, ↓g_not, ↓g_ite, ↓g_call, ↓g_callK, ↓g_bi, ↓g_listC, ↓g_rgT, ↓g_rgL, ↓g_isi, ↓g_isiT, ↓g_tup, ↓g_lst, ↓g_ix, ↓g_sl, ↓g_rev, ↓g_app, ↓g_upper, ↓t_and, ↓t_or, ↓t_not, ↓t_ite, ↓t_bl, ↓t_cmp, ↓t_cmp2, ↓t_call, ↓t_callK, ↓t_bi, ↓t_isi, ↓t_isiT, ↓t_ix, ↓l_nil, ↓l_cons, ↓lt_nil, ↓lt_cons, ↓looks_nil, ↓looks_cons, ↓moves_nil, ↓moves_cons, ↓i_seq, ↓i_rng1, ↓i_rng2, ↓i_enum, ↓i_zip, ↓it_list, ↓it_tuple, ↓it_s, ↓gg_n, ↓gg_t, ↓gg_ix, ↓gs_nil, ↓gs_cons, ↓g_tupS, ↓g_lstS, ↓g_lstCS, ↓g_mkL, ↓g_mkC, ↓g_ixT, ↓g_ixL, ↓g_negK, ↓g_asCell, ↓p_nil, ↓p_one, ↓s_pass, ↓s_brk, ↓s_cont, ↓s_never, ↓s_expr, ↓s_ret, ↓s_retN, ↓s_asg, ↓s_par, ↓s_par3, ↓g_rgV, ↓g_rgVK, ↓g_revL, ↓g_revT, ↓s_aug, ↓s_iff, ↓b_add, ↓b_sub, ↓b_mulr, ↓b_mull, ↓b_fdiv, ↓b_mod, ↓b_addLS, ↓b_addTS, ↓q_eqI, ↓q_neI, ↓q_eqB, ↓q_neB, ↓q_lt, ↓q_le, ↓q_gt, ↓q_ge, ↓q_isN, ↓q_isB, ↓q_isnB, ↓isB_b, ↓q_isnN, ↓q_inB, ↓q_notinB, ↓f_lenT, ↓f_lenL, ↓f_int, ↓f_abs, ↓f_max2, ↓f_min2, ↓f_tupleL, ↓f_tupleT, ↓f_listL, ↓f_listT, ↓f_divmod, ↓f_all, ↓f_any, ↓f_sum, ↓a_0, ↓a_1, ↓a_2, ↓t_v, ↓go_nil, ↓go_bind, ↓go_pure, ↓go_lookM, ↓go_lookTM, ↓go_truB, ↓go_noneM, ↓go_moveM, ↓go_ite, ↓go_fin, startE, tyB, isNone, Tgs.len, Exs.len, List.map_cons, List.map_nil, List.length_cons, List.length_nil, List.cons_append, List.nil_append, List.take_length, if_true, Bool.not_false, Bool.not_true, List.set_cons_zero, List.set_cons_succ, Nat.reduceAdd, Nat.reduceSub, List.reduceReplicate, Bool.false_eq_true, if_false, reduceIte, and_self, Bool.true_eq_false, decide_true, decide_false]
        refine s43 (by omega) h (by omega) (by omega) fun a b x1 y1 z1 hs hb => ?_
        try simp (maxSteps := 2000000) (disch := first | omega | assumption | (simp only [List.length_map, List.length_append, List.length_cons, List.length_nil, List.length_take, List.length_drop, List.length_reverse, List.length_replicate]; omega)) only [↓w_nil, ↓w_cons, ↓g_comp, ↓g_comp2, ↓s_for, ↓s_while, ↓g_non, ↓g_bl, ↓g_int, ↓g_str, ↓g_v, ↓g_g, ↓g_get0, ↓g_gets, ↓g_neg, ↓g_bin, ↓g_cmp, ↓g_cmp2, ↓g_and, ↓g_or, ↓g_not, ↓g_ite, ↓g_call, ↓g_callK, ↓g_bi, ↓g_listC, ↓g_rgT, ↓g_rgL, ↓g_isi, ↓g_isiT, ↓g_tup, ↓g_lst, ↓g_ix, ↓g_sl, ↓g_rev, ↓g_app, ↓g_upper, ↓t_and, ↓t_or, ↓t_not, ↓t_ite, ↓t_bl, ↓t_cmp, ↓t_cmp2, ↓t_call, ↓t_callK, ↓t_bi, ↓t_isi, ↓t_isiT, ↓t_ix, ↓l_nil, ↓l_cons, ↓lt_nil, ↓lt_cons, ↓looks_nil, ↓looks_cons, ↓moves_nil, ↓moves_cons, ↓i_seq, ↓i_rng1, ↓i_rng2, ↓i_enum, ↓i_zip, ↓it_list, ↓it_tuple, ↓it_s, ↓gg_n, ↓gg_t, ↓gg_ix, ↓gs_nil, ↓gs_cons, ↓g_tupS, ↓g_lstS, ↓g_lstCS, ↓g_mkL, ↓g_mkC, ↓g_ixT, ↓g_ixL, ↓g_negK, ↓g_asCell, ↓p_nil, ↓p_one, ↓s_pass, ↓s_brk, ↓s_cont, ↓s_never, ↓s_expr, ↓s_ret, ↓s_retN, ↓s_asg, ↓s_par, ↓s_par3, ↓g_rgV, ↓g_rgVK, ↓g_revL, ↓g_revT, ↓s_aug, ↓s_iff, ↓b_add, ↓b_sub, ↓b_mulr, ↓b_mull, ↓b_fdiv, ↓b_mod, ↓b_addLS, ↓b_addTS, ↓q_eqI, ↓q_neI, ↓q_eqB, ↓q_neB, ↓q_lt, ↓q_le, ↓q_gt, ↓q_ge, ↓q_isN, ↓q_isB, ↓q_isnB, ↓isB_b, ↓q_isnN, ↓q_inB, ↓q_notinB, ↓f_lenT, ↓f_lenL, ↓f_int, ↓f_abs, ↓f_max2, ↓f_min2, ↓f_tupleL, ↓f_tupleT, ↓f_listL, ↓f_listT, ↓f_divmod, ↓f_all, ↓f_any, ↓f_sum, ↓a_0, ↓a_1, ↓a_2, ↓t_v, ↓go_nil, ↓go_bind, ↓go_pure, ↓go_lookM, ↓go_lookTM, ↓go_truB, ↓go_noneM, ↓go_moveM, ↓go_ite, ↓go_fin, startE, tyB, isNone, Tgs.len, Exs.len, List.map_cons, List.map_nil, List.length_cons, List.length_nil, List.cons_append, List.nil_append, List.take_length, if_true, Bool.not_false, Bool.not_true, List.set_cons_zero, List.set_cons_succ, Nat.reduceAdd, Nat.reduceSub, List.reduceReplicate, Bool.false_eq_true, if_false, reduceIte, and_self, Bool.true_eq_false, decide_true, decide_false]
        cases o with
        | none =>
          have ht := hN.mp rfl a b hs.ab
          have ht' : ¬ tail' q a b < tail' p a b := by omega
          simp (maxSteps := 2000000) (disch := first | omega | assumption | (simp only [List.length_map, List.length_append, List.length_cons, List.length_nil, List.length_take, List.length_drop, List.length_reverse, List.length_replicate]; omega)) only [optD, s25 _ hp hs, s25 _ hq' hs, ht', ↓w_nil, ↓w_cons, ↓g_comp, ↓g_comp2, ↓s_for, ↓s_while, ↓g_non, ↓g_bl, ↓g_int, ↓g_str, ↓g_v, ↓g_g, ↓g_get0, ↓g_gets, ↓g_neg, ↓g_bin, ↓g_cmp, ↓g_cmp2, ↓g_and, ↓g_or, ↓g_not, ↓g_ite, ↓g_call, ↓g_callK, ↓g_bi, ↓g_listC, ↓g_rgT, ↓g_rgL, ↓g_isi, ↓g_isiT, ↓g_tup, ↓g_lst, ↓g_ix, ↓g_sl, ↓g_rev, ↓g_app, ↓g_upper, ↓t_and, ↓t_or, ↓t_not, ↓t_ite, ↓t_bl, ↓t_cmp, ↓t_cmp2, ↓t_call, ↓t_callK, ↓t_bi, ↓t_isi, ↓t_isiT, ↓t_ix, ↓l_nil, ↓l_cons, ↓lt_nil, ↓lt_cons, ↓looks_nil, ↓looks_cons, ↓moves_nil, ↓moves_cons, ↓i_seq, ↓i_rng1, ↓i_rng2, ↓i_enum, ↓i_zip, ↓it_list, ↓it_tuple, ↓it_s, ↓gg_n, ↓gg_t, ↓gg_ix, ↓gs_nil, ↓gs_cons, ↓g_tupS, ↓g_lstS, ↓g_lstCS, ↓g_mkL, ↓g_mkC, ↓g_ixT, ↓g_ixL, ↓g_negK, ↓g_asCell, ↓p_nil, ↓p_one, ↓s_pass, ↓s_brk, ↓s_cont, ↓s_never, ↓s_expr, ↓s_ret, ↓s_retN, ↓s_asg, ↓s_par, ↓s_par3, ↓g_rgV, ↓g_rgVK, ↓g_revL, ↓g_revT, ↓s_aug, ↓s_iff, ↓b_add, ↓b_sub, ↓b_mulr, ↓b_mull, ↓b_fdiv, ↓b_mod, ↓b_addLS, ↓b_addTS, ↓q_eqI, ↓q_neI, ↓q_eqB, ↓q_neB, ↓q_lt, ↓q_le, ↓q_gt, ↓q_ge, ↓q_isN, ↓q_isB, ↓q_isnB, ↓isB_b, ↓q_isnN, ↓q_inB, ↓q_notinB, ↓f_lenT, ↓f_lenL, ↓f_int, ↓f_abs, ↓f_max2, ↓f_min2, ↓f_tupleL, ↓f_tupleT, ↓f_listL, ↓f_listT, ↓f_divmod, ↓f_all, ↓f_any, ↓f_sum, ↓a_0, ↓a_1, ↓a_2, ↓t_v, ↓go_cons, ↓go_nil, ↓go_bind, ↓go_pure, ↓go_lookM, ↓go_lookTM, ↓go_truB, ↓go_noneM, ↓go_moveM, ↓go_ite, ↓go_fin, startE, tyB, isNone, Tgs.len, Exs.len, List.map_cons, List.map_nil, List.length_cons, List.length_nil, List.cons_append, List.nil_append, List.take_length, if_true, Bool.not_false, Bool.not_true, List.set_cons_zero, List.set_cons_succ, Nat.reduceAdd, Nat.reduceSub, List.reduceReplicate, Bool.false_eq_true, if_false, reduceIte, and_self, Bool.true_eq_false, decide_true, decide_false]
          refine s38 (by omega) hp ?_
          simp (maxSteps := 2000000) (disch := first | omega | assumption | (simp only [List.length_map, List.length_append, List.length_cons, List.length_nil, List.length_take, List.length_drop, List.length_reverse, List.length_replicate]; omega)) only [↓w_nil, ↓w_cons, ↓g_comp, ↓g_comp2, ↓s_for, ↓s_while, ↓g_non, ↓g_bl, ↓g_int, ↓g_str, ↓g_v, ↓g_g, ↓g_get0, ↓g_gets, ↓g_neg, ↓g_bin, ↓g_cmp, ↓g_cmp2, ↓g_and, ↓g_or, ↓g_not, ↓g_ite, ↓g_call, ↓g_callK, ↓g_bi, ↓g_listC, ↓g_rgT, ↓g_rgL, ↓g_isi, ↓g_isiT, ↓g_tup, ↓g_lst, ↓g_ix, ↓g_sl, ↓g_rev, ↓g_app, ↓g_upper, ↓t_and, ↓t_or, ↓t_not, ↓t_ite, ↓t_bl, ↓t_cmp, ↓t_cmp2, ↓t_call, ↓t_callK, ↓t_bi, ↓t_isi, ↓t_isiT, ↓t_ix, ↓l_nil, ↓l_cons, ↓lt_nil, ↓lt_cons, ↓looks_nil, ↓looks_cons, ↓moves_nil, ↓moves_cons, ↓i_seq, ↓i_rng1, ↓i_rng2, ↓i_enum, ↓i_zip, ↓it_list, ↓it_tuple, ↓it_s, ↓gg_n, ↓gg_t, ↓gg_ix, ↓gs_nil, ↓gs_cons, ↓g_tupS, ↓g_lstS, ↓g_lstCS, ↓g_mkL, ↓g_mkC, ↓g_ixT, ↓g_ixL, ↓g_negK, ↓g_asCell, ↓p_nil, ↓p_one, ↓s_pass, ↓s_brk, ↓s_cont, ↓s_never, ↓s_expr, ↓s_ret, ↓s_retN, ↓s_asg, ↓s_par, ↓s_par3, ↓g_rgV, ↓g_rgVK, ↓g_revL, ↓g_revT, ↓s_aug, ↓s_iff, ↓b_add, ↓b_sub, ↓b_mulr, ↓b_mull, ↓b_fdiv, ↓b_mod, ↓b_addLS, ↓b_addTS, ↓q_eqI, ↓q_neI, ↓q_eqB, ↓q_neB, ↓q_lt, ↓q_le, ↓q_gt, ↓q_ge, ↓q_isN, ↓q_isB, ↓q_isnB, ↓isB_b, ↓q_isnN, ↓q_inB, ↓q_notinB, ↓f_lenT, ↓f_lenL, ↓f_int, ↓f_abs, ↓f_max2, ↓f_min2, ↓f_tupleL, ↓f_tupleT, ↓f_listL, ↓f_listT, ↓f_divmod, ↓f_all, ↓f_any, ↓f_sum, ↓a_0, ↓a_1, ↓a_2, ↓t_v, ↓go_cons, ↓go_nil, ↓go_bind, ↓go_pure, ↓go_lookM, ↓go_lookTM, ↓go_truB, ↓go_noneM, ↓go_moveM, ↓go_ite, ↓go_fin, startE, tyB, isNone, Tgs.len, Exs.len, List.map_cons, List.map_nil, List.length_cons, List.length_nil, List.cons_append, List.nil_append, List.take_length, if_true, Bool.not_false, Bool.not_true, List.set_cons_zero, List.set_cons_succ, Nat.reduceAdd, Nat.reduceSub, List.reduceReplicate, Bool.false_eq_true, if_false, reduceIte, and_self, Bool.true_eq_false, decide_true, decide_false]
          refine s38 (by omega) hq' ?_
          simp (maxSteps := 2000000) (disch := first | omega | assumption | (simp only [List.length_map, List.length_append, List.length_cons, List.length_nil, List.length_take, List.length_drop, List.length_reverse, List.length_replicate]; omega)) only [ht', ↓w_nil, ↓w_cons, ↓g_comp, ↓g_comp2, ↓s_for, ↓s_while, ↓g_non, ↓g_bl, ↓g_int, ↓g_str, ↓g_v, ↓g_g, ↓g_get0, ↓g_gets, ↓g_neg, ↓g_bin, ↓g_cmp, ↓g_cmp2, ↓g_and, ↓g_or, ↓g_not, ↓g_ite, ↓g_call, ↓g_callK, ↓g_bi, ↓g_listC, ↓g_rgT, ↓g_rgL, ↓g_isi, ↓g_isiT, ↓g_tup, ↓g_lst, ↓g_ix, ↓g_sl, ↓g_rev, ↓g_app, ↓g_upper, ↓t_and, ↓t_or, ↓t_not, ↓t_ite, ↓t_bl, ↓t_cmp, ↓t_cmp2, ↓t_call, ↓t_callK, ↓t_bi, ↓t_isi, ↓t_isiT, ↓t_ix, ↓l_nil, ↓l_cons, ↓lt_nil, ↓lt_cons, ↓looks_nil, ↓looks_cons, ↓moves_nil, ↓moves_cons, ↓i_seq, ↓i_rng1, ↓i_rng2, ↓i_enum, ↓i_zip, ↓it_list, ↓it_tuple, ↓it_s, ↓gg_n, ↓gg_t, ↓gg_ix, ↓gs_nil, ↓gs_cons, ↓g_tupS, ↓g_lstS, ↓g_lstCS, ↓g_mkL, ↓g_mkC, ↓g_ixT, ↓g_ixL, ↓g_negK, ↓g_asCell, ↓p_nil, ↓p_one, ↓s_pass, ↓s_brk, ↓s_cont, ↓s_never, ↓s_expr, ↓s_ret, ↓s_retN, ↓s_asg, ↓s_par, ↓s_par3, ↓g_rgV, ↓g_rgVK, ↓g_revL, ↓g_revT, ↓s_aug, ↓s_iff, ↓b_add, ↓b_sub, ↓b_mulr, ↓b_mull, ↓b_fdiv, ↓b_mod, ↓b_addLS, ↓b_addTS, ↓q_eqI, ↓q_neI, ↓q_eqB, ↓q_neB, ↓q_lt, ↓q_le, ↓q_gt, ↓q_ge, ↓q_isN, ↓q_isB, ↓q_isnB, ↓isB_b, ↓q_isnN, ↓q_inB, ↓q_notinB, ↓f_lenT, ↓f_lenL, ↓f_int, ↓f_abs, ↓f_max2, ↓f_min2, ↓f_tupleL, ↓f_tupleT, ↓f_listL, ↓f_listT, ↓f_divmod, ↓f_all, ↓f_any, ↓f_sum, ↓a_0, ↓a_1, ↓a_2, ↓t_v, ↓go_cons, ↓go_nil, ↓go_bind, ↓go_pure, ↓go_lookM, ↓go_lookTM, ↓go_truB, ↓go_noneM, ↓go_moveM, ↓go_ite, ↓go_fin, startE, tyB, isNone, Tgs.len, Exs.len, List.map_cons, List.map_nil, List.length_cons, List.length_nil, List.cons_append, List.nil_append, List.take_length, if_true, Bool.not_false, Bool.not_true, List.set_cons_zero, List.set_cons_succ, Nat.reduceAdd, Nat.reduceSub, List.reduceReplicate, Bool.false_eq_true, if_false, reduceIte, and_self, Bool.true_eq_false, decide_true, decide_false]
          exact ⟨_, _, _, _, _, rfl, rfl⟩
        | some w =>
          simp (maxSteps := 2000000) (disch := first | omega | assumption | (simp only [List.length_map, List.length_append, List.length_cons, List.length_nil, List.length_take, List.length_drop, List.length_reverse, List.length_replicate]; omega)) only [optD, pD, ↓w_nil, ↓w_cons, ↓g_comp, ↓g_comp2, ↓s_for, ↓s_while, ↓g_non, ↓g_bl, ↓g_int, ↓g_str, ↓g_v, ↓g_g, ↓g_get0, ↓g_gets, ↓g_neg, ↓g_bin, ↓g_cmp, ↓g_cmp2, ↓g_and, ↓g_or, ↓g_not, ↓g_ite, ↓g_call, ↓g_callK, ↓g_bi, ↓g_listC, ↓g_rgT, ↓g_rgL, ↓g_isi, ↓g_isiT, ↓g_tup, ↓g_lst, ↓g_ix, ↓g_sl, ↓g_rev, ↓g_app, ↓g_upper, ↓t_and, ↓t_or, ↓t_not, ↓t_ite, ↓t_bl, ↓t_cmp, ↓t_cmp2, ↓t_call, ↓t_callK, ↓t_bi, ↓t_isi, ↓t_isiT, ↓t_ix, ↓l_nil, ↓l_cons, ↓lt_nil, ↓lt_cons, ↓looks_nil, ↓looks_cons, ↓moves_nil, ↓moves_cons, ↓i_seq, ↓i_rng1, ↓i_rng2, ↓i_enum, ↓i_zip, ↓it_list, ↓it_tuple, ↓it_s, ↓gg_n, ↓gg_t, ↓gg_ix, ↓gs_nil, ↓gs_cons, ↓g_tupS, ↓g_lstS, ↓g_lstCS, ↓g_mkL, ↓g_mkC, ↓g_ixT, ↓g_ixL, ↓g_negK, ↓g_asCell, ↓p_nil, ↓p_one, ↓s_pass, ↓s_brk, ↓s_cont, ↓s_never, ↓s_expr, ↓s_ret, ↓s_retN, ↓s_asg, ↓s_par, ↓s_par3, ↓g_rgV, ↓g_rgVK, ↓g_revL, ↓g_revT, ↓s_aug, ↓s_iff, ↓b_add, ↓b_sub, ↓b_mulr, ↓b_mull, ↓b_fdiv, ↓b_mod, ↓b_addLS, ↓b_addTS, ↓q_eqI, ↓q_neI, ↓q_eqB, ↓q_neB, ↓q_lt, ↓q_le, ↓q_gt, ↓q_ge, ↓q_isN, ↓q_isB, ↓q_isnB, ↓isB_b, ↓q_isnN, ↓q_inB, ↓q_notinB, ↓f_lenT, ↓f_lenL, ↓f_int, ↓f_abs, ↓f_max2, ↓f_min2, ↓f_tupleL, ↓f_tupleT, ↓f_listL, ↓f_listT, ↓f_divmod, ↓f_all, ↓f_any, ↓f_sum, ↓a_0, ↓a_1, ↓a_2, ↓t_v, ↓go_cons, ↓go_nil, ↓go_bind, ↓go_pure, ↓go_lookM, ↓go_lookTM, ↓go_truB, ↓go_noneM, ↓go_moveM, ↓go_ite, ↓go_fin, startE, tyB, isNone, Tgs.len, Exs.len, List.map_cons, List.map_nil, List.length_cons, List.length_nil, List.cons_append, List.nil_append, List.take_length, if_true, Bool.not_false, Bool.not_true, List.set_cons_zero, List.set_cons_succ, Nat.reduceAdd, Nat.reduceSub, List.reduceReplicate, Bool.false_eq_true, if_false, reduceIte, and_self, Bool.true_eq_false, decide_true, decide_false]
          exact ⟨_, _, _, _, _, rfl, rfl⟩
      · rintro ρ s ⟨x, y, z, x6, x7, rfl, rfl⟩
        exact ⟨_, rfl, _, _, _, _, _, rfl, rfl⟩
    rintro ρ s ⟨x, y, z, x6, x7, rfl, rfl⟩
    simp (maxSteps := 2000000) (disch := first | omega | assumption | (simp only [List.length_map, List.length_append, List.length_cons, List.length_nil, List.length_take, List.length_drop, List.length_reverse, List.length_replicate]; omega)) only [↓w_nil, ↓w_cons, ↓g_comp, ↓g_comp2, ↓s_for, ↓s_while, ↓g_non, ↓g_bl, ↓g_int, ↓g_str, ↓g_v, ↓g_g, ↓g_get0, ↓g_gets, ↓g_neg, ↓g_bin, ↓g_cmp, ↓g_cmp2, ↓g_and, ↓g_or, ↓g_not, ↓g_ite, ↓g_call, ↓g_callK, ↓g_bi, ↓g_listC, ↓g_rgT, ↓g_rgL, ↓g_isi, ↓g_isiT, ↓g_tup, ↓g_lst, ↓g_ix, ↓g_sl, ↓g_rev, ↓g_app, ↓g_upper, ↓t_and, ↓t_or, ↓t_not, ↓t_ite, ↓t_bl, ↓t_cmp, ↓t_cmp2, ↓t_call, ↓t_callK, ↓t_bi, ↓t_isi, ↓t_isiT, ↓t_ix, ↓l_nil, ↓l_cons, ↓lt_nil, ↓lt_cons, ↓looks_nil, ↓looks_cons, ↓moves_nil, ↓moves_cons, ↓i_seq, ↓i_rng1, ↓i_rng2, ↓i_enum, ↓i_zip, ↓it_list, ↓it_tuple, ↓it_s, ↓gg_n, ↓gg_t, ↓gg_ix, ↓gs_nil, ↓gs_cons, ↓g_tupS, ↓g_lstS, ↓g_lstCS, ↓g_mkL, ↓g_mkC, ↓g_ixT, ↓g_ixL, ↓g_negK, ↓g_asCell, ↓p_nil, ↓p_one, ↓s_pass, ↓s_brk, ↓s_cont, ↓s_never, ↓s_expr, ↓s_ret, ↓s_retN, ↓s_asg, ↓s_par, ↓s_par3, ↓g_rgV, ↓g_rgVK, ↓g_revL, ↓g_revT, ↓s_aug, ↓s_iff, ↓b_add, ↓b_sub, ↓b_mulr, ↓b_mull, ↓b_fdiv, ↓b_mod, ↓b_addLS, ↓b_addTS, ↓q_eqI, ↓q_neI, ↓q_eqB, ↓q_neB, ↓q_lt, ↓q_le, ↓q_gt, ↓q_ge, ↓q_isN, ↓q_isB, ↓q_isnB, ↓isB_b, ↓q_isnN, ↓q_inB, ↓q_notinB, ↓f_lenT, ↓f_lenL, ↓f_int, ↓f_abs, ↓f_max2, ↓f_min2, ↓f_tupleL, ↓f_tupleT, ↓f_listL, ↓f_listT, ↓f_divmod, ↓f_all, ↓f_any, ↓f_sum, ↓a_0, ↓a_1, ↓a_2, ↓t_v, ↓go_cons, ↓go_nil, ↓go_bind, ↓go_pure, ↓go_lookM, ↓go_lookTM, ↓go_truB, ↓go_noneM, ↓go_moveM, ↓go_ite, ↓go_fin, startE, tyB, isNone, Tgs.len, Exs.len, List.map_cons, List.map_nil, List.length_cons, List.length_nil, List.cons_append, List.nil_append, List.take_length, if_true, Bool.not_false, Bool.not_true, List.set_cons_zero, List.set_cons_succ, Nat.reduceAdd, Nat.reduceSub, List.reduceReplicate, Bool.false_eq_true, if_false, reduceIte, and_self, Bool.true_eq_false, decide_true, decide_false]
    exact ⟨_, _, _, by first | rfl | trivial, by first | rfl | trivial⟩
  show Go (exSs (callN pr m) pr.glb f44.body [some (.r c), some (.d (plD p)), some (.d (plD q)), none, none, none, none, none]) (U st c x y z) _
  refine key.imp fun fl s e => ?_
  obtain ⟨x', y', z', rfl, rfl⟩ := e
  simp (maxSteps := 2000000) (disch := first | omega | assumption | (simp only [List.length_map, List.length_append, List.length_cons, List.length_nil, List.length_take, List.length_drop, List.length_reverse, List.length_replicate]; omega)) only [U_take, ↓w_nil, ↓w_cons, ↓g_comp, ↓g_comp2, ↓s_for, ↓s_while, ↓g_non, ↓g_bl, ↓g_int, ↓g_str, ↓g_v, ↓g_g, ↓g_get0, ↓g_gets, ↓g_neg, ↓g_bin, ↓g_cmp, ↓g_cmp2, ↓g_and, ↓g_or, ↓g_not, ↓g_ite, ↓g_call, ↓g_callK, ↓g_bi, ↓g_listC, ↓g_rgT, ↓g_rgL, ↓g_isi, ↓g_isiT, ↓g_tup, ↓g_lst, ↓g_ix, ↓g_sl, ↓g_rev, ↓g_app, ↓g_upper, ↓t_and, ↓t_or, ↓t_not, ↓t_ite, ↓t_bl, ↓t_cmp, ↓t_cmp2, ↓t_call, ↓t_callK, ↓t_bi, ↓t_isi, ↓t_isiT, ↓t_ix, ↓l_nil, ↓l_cons, ↓lt_nil, ↓lt_cons, ↓looks_nil, ↓looks_cons, ↓moves_nil, ↓moves_cons, ↓i_seq, ↓i_rng1, ↓i_rng2, ↓i_enum, ↓i_zip, ↓it_list, ↓it_tuple, ↓it_s, ↓gg_n, ↓gg_t, ↓gg_ix, ↓gs_nil, ↓gs_cons, ↓g_tupS, ↓g_lstS, ↓g_lstCS, ↓g_mkL, ↓g_mkC, ↓g_ixT, ↓g_ixL, ↓g_negK, ↓g_asCell, ↓p_nil, ↓p_one, ↓s_pass, ↓s_brk, ↓s_cont, ↓s_never, ↓s_expr, ↓s_ret, ↓s_retN, ↓s_asg, ↓s_par, ↓s_par3, ↓g_rgV, ↓g_rgVK, ↓g_revL, ↓g_revT, ↓s_aug, ↓s_iff, ↓b_add, ↓b_sub, ↓b_mulr, ↓b_mull, ↓b_fdiv, ↓b_mod, ↓b_addLS, ↓b_addTS, ↓q_eqI, ↓q_neI, ↓q_eqB, ↓q_neB, ↓q_lt, ↓q_le, ↓q_gt, ↓q_ge, ↓q_isN, ↓q_isB, ↓q_isnB, ↓isB_b, ↓q_isnN, ↓q_inB, ↓q_notinB, ↓f_lenT, ↓f_lenL, ↓f_int, ↓f_abs, ↓f_max2, ↓f_min2, ↓f_tupleL, ↓f_tupleT, ↓f_listL, ↓f_listT, ↓f_divmod, ↓f_all, ↓f_any, ↓f_sum, ↓a_0, ↓a_1, ↓a_2, ↓t_v, ↓go_cons, ↓go_nil, ↓go_bind, ↓go_pure, ↓go_lookM, ↓go_lookTM, ↓go_truB, ↓go_noneM, ↓go_moveM, ↓go_ite, ↓go_fin, startE, tyB, isNone, Tgs.len, Exs.len, List.map_cons, List.map_nil, List.length_cons, List.length_nil, List.cons_append, List.nil_append, List.take_length, if_true, Bool.not_false, Bool.not_true, List.set_cons_zero, List.set_cons_succ, Nat.reduceAdd, Nat.reduceSub, List.reduceReplicate, Bool.false_eq_true, if_false, reduceIte, and_self, Bool.true_eq_false, decide_true, decide_false]
  exact hq _ _ _
theorem rev_pok {pl : Pl} (h : Pok pl) : Pok pl.reverse := ⟨fun e => h.ne (by simpa using e), by rw [List.length_reverse]; exact h.len, fun p hp => h.all p (List.mem_reverse.mp hp)⟩
theorem s45 (hn : 12 ≤ n) (h : c < st.length) (hq : ∀ x' y' z', Q (.d (.bool true)) (U st c x' y' z')) : Go (callN pr n 45 [.r c]) (U st c x y z) Q := by
  obtain ⟨m, rfl⟩ : ∃ m, n = m + 1 := ⟨n - 1, by omega⟩
  rw [go_call (fi := f45) rfl rfl]
  unfold f45
  refine go_cons.mpr ?_
  rw [s_for, i_rng1, g_int, go_lookM, rng1_ok (j := 2) (by decide)]
  simp only [startE, List.map_cons, List.map_nil, List.length_cons, List.length_nil, List.cons_append, List.nil_append, Nat.reduceAdd, Nat.reduceSub, List.reduceReplicate]
  refine go_forL (fun xs ρ s => ∃ (x1 x2 x3 x4 x5 x6 x7 : Option Val) (x y z : Int), ρ = [some (.r c), x1, x2, x3, x4, x5, x6, x7] ∧ s = U st c x y z) ?_ ?_ _ _ _ ⟨none, none, none, none, none, none, none, _, _, _, rfl, rfl⟩
  · rintro x0 r ρ s ⟨x1, x2, x3, x4, x5, x6, x7, x, y, z, rfl, rfl⟩
    refine gg_n.mpr ?_
    simp only [List.set_cons_succ, List.set_cons_zero]
    refine go_seq (fun ρ s => ∃ (x1 x3 x4 x5 x6 x7 : Option Val) (x y z : Int) (pl : Pl), ρ = [some (.r c), x1, some (.d (plD pl)), x3, x4, x5, x6, x7] ∧ s = U st c x y z ∧ Pok pl) ?_ ?_
    · simp (maxSteps := 2000000) (disch := first | omega | assumption | (simp only [List.length_map, List.length_append, List.length_cons, List.length_nil, List.length_take, List.length_drop, List.length_reverse, List.length_replicate]; omega)) only [↓w_nil, ↓w_cons, ↓g_comp, ↓g_comp2, ↓s_for, ↓s_while, ↓g_non, ↓g_bl, ↓g_int, ↓g_str, ↓g_v, ↓g_g, ↓g_get0, ↓g_gets, ↓g_neg, ↓g_bin, ↓g_cmp, ↓g_cmp2, ↓g_and, ↓g_or, ↓g_not, ↓g_ite, ↓g_call, ↓g_callK, ↓g_bi, ↓g_listC, ↓g_rgT, ↓g_rgL, ↓g_isi, ↓g_isiT, ↓g_tup, ↓g_lst, ↓g_ix, ↓g_sl, ↓g_rev, ↓g_app, ↓g_upper, ↓t_and, ↓t_or, ↓t_not, ↓t_ite, ↓t_bl, ↓t_cmp, ↓t_cmp2, ↓t_call, ↓t_callK, ↓t_bi, ↓t_isi, ↓t_isiT, ↓t_ix, ↓l_nil, ↓l_cons, ↓lt_nil, ↓lt_cons, ↓looks_nil, ↓looks_cons, ↓moves_nil, ↓moves_cons, ↓i_seq, ↓i_rng1, ↓i_rng2, ↓i_enum, ↓i_zip, ↓it_list, ↓it_tuple, ↓it_s, ↓gg_n, ↓gg_t, ↓gg_ix, ↓gs_nil, ↓gs_cons, ↓g_tupS, ↓g_lstS, ↓g_lstCS, ↓g_mkL, ↓g_mkC, ↓g_ixT, ↓g_ixL, ↓g_negK, ↓g_asCell, ↓p_nil, ↓p_one, ↓s_pass, ↓s_brk, ↓s_cont, ↓s_never, ↓s_expr, ↓s_ret, ↓s_retN, ↓s_asg, ↓s_par, ↓s_par3, ↓g_rgV, ↓g_rgVK, ↓g_revL, ↓g_revT, ↓s_aug, ↓s_iff, ↓b_add, ↓b_sub, ↓b_mulr, ↓b_mull, ↓b_fdiv, ↓b_mod, ↓b_addLS, ↓b_addTS, ↓q_eqI, ↓q_neI, ↓q_eqB, ↓q_neB, ↓q_lt, ↓q_le, ↓q_gt, ↓q_ge, ↓q_isN, ↓q_isB, ↓q_isnB, ↓isB_b, ↓q_isnN, ↓q_inB, ↓q_notinB, ↓f_lenT, ↓f_lenL, ↓f_int, ↓f_abs, ↓f_max2, ↓f_min2, ↓f_tupleL, ↓f_tupleT, ↓f_listL, ↓f_listT, ↓f_divmod, ↓f_all, ↓f_any, ↓f_sum, ↓a_0, ↓a_1, ↓a_2, ↓t_v, ↓go_nil, ↓go_bind, ↓go_pure, ↓go_lookM, ↓go_lookTM, ↓go_truB, ↓go_noneM, ↓go_moveM, ↓go_ite, ↓go_fin, startE, tyB, isNone, Tgs.len, Exs.len, List.map_cons, List.map_nil, List.length_cons, List.length_nil, List.cons_append, List.nil_append, List.take_length, if_true, Bool.not_false, Bool.not_true, List.set_cons_zero, List.set_cons_succ, Nat.reduceAdd, Nat.reduceSub, List.reduceReplicate, Bool.false_eq_true, if_false, reduceIte, and_self, Bool.true_eq_false, decide_true, decide_false]
      refine s32 (by omega) h (by simp) (by simp) fun e x5 y5 z5 he => ?_
      obtain ⟨step, rfl, p0, p1⟩ : ∃ w, e = .int w ∧ 1 ≤ w ∧ w ≤ 10 := by
        simp only [List.mem_cons, List.not_mem_nil, or_false] at he
        rcases he with rfl | rfl | rfl | rfl
        all_goals exact ⟨_, rfl, by omega, by omega⟩
      try simp (maxSteps := 2000000) (disch := first | omega | assumption | (simp only [List.length_map, List.length_append, List.length_cons, List.length_nil, List.length_take, List.length_drop, List.length_reverse, List.length_replicate]; omega)) only [↓w_nil, ↓w_cons, ↓g_comp, ↓g_comp2, ↓s_for, ↓s_while, ↓g_non, ↓g_bl, ↓g_int, ↓g_str, ↓g_v, ↓g_g, ↓g_get0, ↓g_gets, ↓g_neg, ↓g_bin, ↓g_cmp, ↓g_cmp2, ↓g_and, ↓g_or, ↓g_not, ↓g_ite, ↓g_call, ↓g_callK, ↓g_bi, ↓g_listC, ↓g_rgT, ↓g_rgL, ↓g_isi, ↓g_isiT, ↓g_tup, ↓g_lst, ↓g_ix, ↓g_sl, ↓g_rev, ↓g_app, ↓g_upper, ↓t_and, ↓t_or, ↓t_not, ↓t_ite, ↓t_bl, ↓t_cmp, ↓t_cmp2, ↓t_call, ↓t_callK, ↓t_bi, ↓t_isi, ↓t_isiT, ↓t_ix, ↓l_nil, ↓l_cons, ↓lt_nil, ↓lt_cons, ↓looks_nil, ↓looks_cons, ↓moves_nil, ↓moves_cons, ↓i_seq, ↓i_rng1, ↓i_rng2, ↓i_enum, ↓i_zip, ↓it_list, ↓it_tuple, ↓it_s, ↓gg_n, ↓gg_t, ↓gg_ix, ↓gs_nil, ↓gs_cons, ↓g_tupS, ↓g_lstS, ↓g_lstCS, ↓g_mkL, ↓g_mkC, ↓g_ixT, ↓g_ixL, ↓g_negK, ↓g_asCell, ↓p_nil, ↓p_one, ↓s_pass, ↓s_brk, ↓s_cont, ↓s_never, ↓s_expr, ↓s_ret, ↓s_retN, ↓s_asg, ↓s_par, ↓s_par3, ↓g_rgV, ↓g_rgVK, ↓g_revL, ↓g_revT, ↓s_aug, ↓s_iff, ↓b_add, ↓b_sub, ↓b_mulr, ↓b_mull, ↓b_fdiv, ↓b_mod, ↓b_addLS, ↓b_addTS, ↓q_eqI, ↓q_neI, ↓q_eqB, ↓q_neB, ↓q_lt, ↓q_le, ↓q_gt, ↓q_ge, ↓q_isN, ↓q_isB, ↓q_isnB, ↓isB_b, ↓q_isnN, ↓q_inB, ↓q_notinB, ↓f_lenT, ↓f_lenL, ↓f_int, ↓f_abs, ↓f_max2, ↓f_min2, ↓f_tupleL, ↓f_tupleT, ↓f_listL, ↓f_listT, ↓f_divmod, ↓f_all, ↓f_any, ↓f_sum, ↓a_0, ↓a_1, ↓a_2, ↓t_v, ↓go_nil, ↓go_bind, ↓go_pure, ↓go_lookM, ↓go_lookTM, ↓go_truB, ↓go_noneM, ↓go_moveM, ↓go_ite, ↓go_fin, startE, tyB, isNone, Tgs.len, Exs.len, List.map_cons, List.map_nil, List.length_cons, List.length_nil, List.cons_append, List.nil_append, List.take_length, if_true, Bool.not_false, Bool.not_true, List.set_cons_zero, List.set_cons_succ, Nat.reduceAdd, Nat.reduceSub, List.reduceReplicate, Bool.false_eq_true, if_false, reduceIte, and_self, Bool.true_eq_false, decide_true, decide_false]
      refine s32 (by omega) h (by simp) (by simp) fun e x5 y5 z5 he => ?_
      obtain ⟨keep, rfl, q0, q1⟩ : ∃ w, e = .int w ∧ 0 ≤ w ∧ w ≤ 999 := by
        simp only [List.mem_cons, List.not_mem_nil, or_false] at he
        rcases he with rfl | rfl | rfl | rfl
        all_goals exact ⟨_, rfl, by omega, by omega⟩
      try simp (maxSteps := 2000000) (disch := first | omega | assumption | (simp only [List.length_map, List.length_append, List.length_cons, List.length_nil, List.length_take, List.length_drop, List.length_reverse, List.length_replicate]; omega)) only [↓w_nil, ↓w_cons, ↓g_comp, ↓g_comp2, ↓s_for, ↓s_while, ↓g_non, ↓g_bl, ↓g_int, ↓g_str, ↓g_v, ↓g_g, ↓g_get0, ↓g_gets, ↓g_neg, ↓g_bin, ↓g_cmp, ↓g_cmp2, ↓g_and, ↓g_or, ↓g_not, ↓g_ite, ↓g_call, ↓g_callK, ↓g_bi, ↓g_listC, ↓g_rgT, ↓g_rgL, ↓g_isi, ↓g_isiT, ↓g_tup, ↓g_lst, ↓g_ix, ↓g_sl, ↓g_rev, ↓g_app, ↓g_upper, ↓t_and, ↓t_or, ↓t_not, ↓t_ite, ↓t_bl, ↓t_cmp, ↓t_cmp2, ↓t_call, ↓t_callK, ↓t_bi, ↓t_isi, ↓t_isiT, ↓t_ix, ↓l_nil, ↓l_cons, ↓lt_nil, ↓lt_cons, ↓looks_nil, ↓looks_cons, ↓moves_nil, ↓moves_cons, ↓i_seq, ↓i_rng1, ↓i_rng2, ↓i_enum, ↓i_zip, ↓it_list, ↓it_tuple, ↓it_s, ↓gg_n, ↓gg_t, ↓gg_ix, ↓gs_nil, ↓gs_cons, ↓g_tupS, ↓g_lstS, ↓g_lstCS, ↓g_mkL, ↓g_mkC, ↓g_ixT, ↓g_ixL, ↓g_negK, ↓g_asCell, ↓p_nil, ↓p_one, ↓s_pass, ↓s_brk, ↓s_cont, ↓s_never, ↓s_expr, ↓s_ret, ↓s_retN, ↓s_asg, ↓s_par, ↓s_par3, ↓g_rgV, ↓g_rgVK, ↓g_revL, ↓g_revT, ↓s_aug, ↓s_iff, ↓b_add, ↓b_sub, ↓b_mulr, ↓b_mull, ↓b_fdiv, ↓b_mod, ↓b_addLS, ↓b_addTS, ↓q_eqI, ↓q_neI, ↓q_eqB, ↓q_neB, ↓q_lt, ↓q_le, ↓q_gt, ↓q_ge, ↓q_isN, ↓q_isB, ↓q_isnB, ↓isB_b, ↓q_isnN, ↓q_inB, ↓q_notinB, ↓f_lenT, ↓f_lenL, ↓f_int, ↓f_abs, ↓f_max2, ↓f_min2, ↓f_tupleL, ↓f_tupleT, ↓f_listL, ↓f_listT, ↓f_divmod, ↓f_all, ↓f_any, ↓f_sum, ↓a_0, ↓a_1, ↓a_2, ↓t_v, ↓go_nil, ↓go_bind, ↓go_pure, ↓go_lookM, ↓go_lookTM, ↓go_truB, ↓go_noneM, ↓go_moveM, ↓go_ite, ↓go_fin, startE, tyB, isNone, Tgs.len, Exs.len, List.map_cons, List.map_nil, List.length_cons, List.length_nil, List.cons_append, List.nil_append, List.take_length, if_true, Bool.not_false, Bool.not_true, List.set_cons_zero, List.set_cons_succ, Nat.reduceAdd, Nat.reduceSub, List.reduceReplicate, Bool.false_eq_true, if_false, reduceIte, and_self, Bool.true_eq_false, decide_true, decide_false]
      refine s41 (by omega) h p0 p1 q0 q1 fun pl x1 y1 z1 hp _ => ?_
      try simp (maxSteps := 2000000) (disch := first | omega | assumption | (simp only [List.length_map, List.length_append, List.length_cons, List.length_nil, List.length_take, List.length_drop, List.length_reverse, List.length_replicate]; omega)) only [↓w_nil, ↓w_cons, ↓g_comp, ↓g_comp2, ↓s_for, ↓s_while, ↓g_non, ↓g_bl, ↓g_int, ↓g_str, ↓g_v, ↓g_g, ↓g_get0, ↓g_gets, ↓g_neg, ↓g_bin, ↓g_cmp, ↓g_cmp2, ↓g_and, ↓g_or, ↓g_not, ↓g_ite, ↓g_call, ↓g_callK, ↓g_bi, ↓g_listC, ↓g_rgT, ↓g_rgL, ↓g_isi, ↓g_isiT, ↓g_tup, ↓g_lst, ↓g_ix, ↓g_sl, ↓g_rev, ↓g_app, ↓g_upper, ↓t_and, ↓t_or, ↓t_not, ↓t_ite, ↓t_bl, ↓t_cmp, ↓t_cmp2, ↓t_call, ↓t_callK, ↓t_bi, ↓t_isi, ↓t_isiT, ↓t_ix, ↓l_nil, ↓l_cons, ↓lt_nil, ↓lt_cons, ↓looks_nil, ↓looks_cons, ↓moves_nil, ↓moves_cons, ↓i_seq, ↓i_rng1, ↓i_rng2, ↓i_enum, ↓i_zip, ↓it_list, ↓it_tuple, ↓it_s, ↓gg_n, ↓gg_t, ↓gg_ix, ↓gs_nil, ↓gs_cons, ↓g_tupS, ↓g_lstS, ↓g_lstCS, ↓g_mkL, ↓g_mkC, ↓g_ixT, ↓g_ixL, ↓g_negK, ↓g_asCell, ↓p_nil, ↓p_one, ↓s_pass, ↓s_brk, ↓s_cont, ↓s_never, ↓s_expr, ↓s_ret, ↓s_retN, ↓s_asg, ↓s_par, ↓s_par3, ↓g_rgV, ↓g_rgVK, ↓g_revL, ↓g_revT, ↓s_aug, ↓s_iff, ↓b_add, ↓b_sub, ↓b_mulr, ↓b_mull, ↓b_fdiv, ↓b_mod, ↓b_addLS, ↓b_addTS, ↓q_eqI, ↓q_neI, ↓q_eqB, ↓q_neB, ↓q_lt, ↓q_le, ↓q_gt, ↓q_ge, ↓q_isN, ↓q_isB, ↓q_isnB, ↓isB_b, ↓q_isnN, ↓q_inB, ↓q_notinB, ↓f_lenT, ↓f_lenL, ↓f_int, ↓f_abs, ↓f_max2, ↓f_min2, ↓f_tupleL, ↓f_tupleT, ↓f_listL, ↓f_listT, ↓f_divmod, ↓f_all, ↓f_any, ↓f_sum, ↓a_0, ↓a_1, ↓a_2, ↓t_v, ↓go_nil, ↓go_bind, ↓go_pure, ↓go_lookM, ↓go_lookTM, ↓go_truB, ↓go_noneM, ↓go_moveM, ↓go_ite, ↓go_fin, startE, tyB, isNone, Tgs.len, Exs.len, List.map_cons, List.map_nil, List.length_cons, List.length_nil, List.cons_append, List.nil_append, List.take_length, if_true, Bool.not_false, Bool.not_true, List.set_cons_zero, List.set_cons_succ, Nat.reduceAdd, Nat.reduceSub, List.reduceReplicate, Bool.false_eq_true, if_false, reduceIte, and_self, Bool.true_eq_false, decide_true, decide_false]
      exact ⟨_, rfl, _, _, _, _, _, _, _, _, _, pl, rfl, rfl, hp⟩
    rintro ρ s ⟨x1, x3, x4, x5, x6, x7, x, y, z, pl, rfl, rfl, hp⟩
    refine go_seq (fun ρ s => ∃ (x1 x4 x5 x6 x7 : Option Val) (x y z : Int) (ql : Pl), ρ = [some (.r c), x1, some (.d (plD pl)), some (.d (plD ql)), x4, x5, x6, x7] ∧ s = U st c x y z ∧ Pok ql) ?_ ?_
    · simp (maxSteps := 2000000) (disch := first | omega | assumption | (simp only [List.length_map, List.length_append, List.length_cons, List.length_nil, List.length_take, List.length_drop, List.length_reverse, List.length_replicate]; omega)) only [↓w_nil, ↓w_cons, ↓g_comp, ↓g_comp2, ↓s_for, ↓s_while, ↓g_non, ↓g_bl, ↓g_int, ↓g_str, ↓g_v, ↓g_g, ↓g_get0, ↓g_gets, ↓g_neg, ↓g_bin, ↓g_cmp, ↓g_cmp2, ↓g_and, ↓g_or, ↓g_not, ↓g_ite, ↓g_call, ↓g_callK, ↓g_bi, ↓g_listC, ↓g_rgT, ↓g_rgL, ↓g_isi, ↓g_isiT, ↓g_tup, ↓g_lst, ↓g_ix, ↓g_sl, ↓g_rev, ↓g_app, ↓g_upper, ↓t_and, ↓t_or, ↓t_not, ↓t_ite, ↓t_bl, ↓t_cmp, ↓t_cmp2, ↓t_call, ↓t_callK, ↓t_bi, ↓t_isi, ↓t_isiT, ↓t_ix, ↓l_nil, ↓l_cons, ↓lt_nil, ↓lt_cons, ↓looks_nil, ↓looks_cons, ↓moves_nil, ↓moves_cons, ↓i_seq, ↓i_rng1, ↓i_rng2, ↓i_enum, ↓i_zip, ↓it_list, ↓it_tuple, ↓it_s, ↓gg_n, ↓gg_t, ↓gg_ix, ↓gs_nil, ↓gs_cons, ↓g_tupS, ↓g_lstS, ↓g_lstCS, ↓g_mkL, ↓g_mkC, ↓g_ixT, ↓g_ixL, ↓g_negK, ↓g_asCell, ↓p_nil, ↓p_one, ↓s_pass, ↓s_brk, ↓s_cont, ↓s_never, ↓s_expr, ↓s_ret, ↓s_retN, ↓s_asg, ↓s_par, ↓s_par3, ↓g_rgV, ↓g_rgVK, ↓g_revL, ↓g_revT, ↓s_aug, ↓s_iff, ↓b_add, ↓b_sub, ↓b_mulr, ↓b_mull, ↓b_fdiv, ↓b_mod, ↓b_addLS, ↓b_addTS, ↓q_eqI, ↓q_neI, ↓q_eqB, ↓q_neB, ↓q_lt, ↓q_le, ↓q_gt, ↓q_ge, ↓q_isN, ↓q_isB, ↓q_isnB, ↓isB_b, ↓q_isnN, ↓q_inB, ↓q_notinB, ↓f_lenT, ↓f_lenL, ↓f_int, ↓f_abs, ↓f_max2, ↓f_min2, ↓f_tupleL, ↓f_tupleT, ↓f_listL, ↓f_listT, ↓f_divmod, ↓f_all, ↓f_any, ↓f_sum, ↓a_0, ↓a_1, ↓a_2, ↓t_v, ↓go_nil, ↓go_bind, ↓go_pure, ↓go_lookM, ↓go_lookTM, ↓go_truB, ↓go_noneM, ↓go_moveM, ↓go_ite, ↓go_fin, startE, tyB, isNone, Tgs.len, Exs.len, List.map_cons, List.map_nil, List.length_cons, List.length_nil, List.cons_append, List.nil_append, List.take_length, if_true, Bool.not_false, Bool.not_true, List.set_cons_zero, List.set_cons_succ, Nat.reduceAdd, Nat.reduceSub, List.reduceReplicate, Bool.false_eq_true, if_false, reduceIte, and_self, Bool.true_eq_false, decide_true, decide_false]
      refine s42 (by omega) h hp fun q1 x5 y5 z5 h1 => ?_
      try simp (maxSteps := 2000000) (disch := first | omega | assumption | (simp only [List.length_map, List.length_append, List.length_cons, List.length_nil, List.length_take, List.length_drop, List.length_reverse, List.length_replicate]; omega)) only [↓w_nil, ↓w_cons, ↓g_comp, ↓g_comp2, ↓s_for, ↓s_while, ↓g_non, ↓g_bl, ↓g_int, ↓g_str, ↓g_v, ↓g_g, ↓g_get0, ↓g_gets, ↓g_neg, ↓g_bin, ↓g_cmp, ↓g_cmp2, ↓g_and, ↓g_or, ↓g_not, ↓g_ite, ↓g_call, ↓g_callK, ↓g_bi, ↓g_listC, ↓g_rgT, ↓g_rgL, ↓g_isi, ↓g_isiT, ↓g_tup, ↓g_lst, ↓g_ix, ↓g_sl, ↓g_rev, ↓g_app, ↓g_upper, ↓t_and, ↓t_or, ↓t_not, ↓t_ite, ↓t_bl, ↓t_cmp, ↓t_cmp2, ↓t_call, ↓t_callK, ↓t_bi, ↓t_isi, ↓t_isiT, ↓t_ix, ↓l_nil, ↓l_cons, ↓lt_nil, ↓lt_cons, ↓looks_nil, ↓looks_cons, ↓moves_nil, ↓moves_cons, ↓i_seq, ↓i_rng1, ↓i_rng2, ↓i_enum, ↓i_zip, ↓it_list, ↓it_tuple, ↓it_s, ↓gg_n, ↓gg_t, ↓gg_ix, ↓gs_nil, ↓gs_cons, ↓g_tupS, ↓g_lstS, ↓g_lstCS, ↓g_mkL, ↓g_mkC, ↓g_ixT, ↓g_ixL, ↓g_negK, ↓g_asCell, ↓p_nil, ↓p_one, ↓s_pass, ↓s_brk, ↓s_cont, ↓s_never, ↓s_expr, ↓s_ret, ↓s_retN, ↓s_asg, ↓s_par, ↓s_par3, ↓g_rgV, ↓g_rgVK, ↓g_revL, ↓g_revT, ↓s_aug, ↓s_iff, ↓b_add, ↓b_sub, ↓b_mulr, ↓b_mull, ↓b_fdiv, ↓b_mod, ↓b_addLS, ↓b_addTS, ↓q_eqI, ↓q_neI, ↓q_eqB, ↓q_neB, ↓q_lt, ↓q_le, ↓q_gt, ↓q_ge, ↓q_isN, ↓q_isB, ↓q_isnB, ↓isB_b, ↓q_isnN, ↓q_inB, ↓q_notinB, ↓f_lenT, ↓f_lenL, ↓f_int, ↓f_abs, ↓f_max2, ↓f_min2, ↓f_tupleL, ↓f_tupleT, ↓f_listL, ↓f_listT, ↓f_divmod, ↓f_all, ↓f_any, ↓f_sum, ↓a_0, ↓a_1, ↓a_2, ↓t_v, ↓go_nil, ↓go_bind, ↓go_pure, ↓go_lookM, ↓go_lookTM, ↓go_truB, ↓go_noneM, ↓go_moveM, ↓go_ite, ↓go_fin, startE, tyB, isNone, Tgs.len, Exs.len, List.map_cons, List.map_nil, List.length_cons, List.length_nil, List.cons_append, List.nil_append, List.take_length, if_true, Bool.not_false, Bool.not_true, List.set_cons_zero, List.set_cons_succ, Nat.reduceAdd, Nat.reduceSub, List.reduceReplicate, Bool.false_eq_true, if_false, reduceIte, and_self, Bool.true_eq_false, decide_true, decide_false]
      refine s42 (by omega) h hp fun q2 x5 y5 z5 h2 => ?_
      try simp (maxSteps := 2000000) (disch := first | omega | assumption | (simp only [List.length_map, List.length_append, List.length_cons, List.length_nil, List.length_take, List.length_drop, List.length_reverse, List.length_replicate]; omega)) only [↓w_nil, ↓w_cons, ↓g_comp, ↓g_comp2, ↓s_for, ↓s_while, ↓g_non, ↓g_bl, ↓g_int, ↓g_str, ↓g_v, ↓g_g, ↓g_get0, ↓g_gets, ↓g_neg, ↓g_bin, ↓g_cmp, ↓g_cmp2, ↓g_and, ↓g_or, ↓g_not, ↓g_ite, ↓g_call, ↓g_callK, ↓g_bi, ↓g_listC, ↓g_rgT, ↓g_rgL, ↓g_isi, ↓g_isiT, ↓g_tup, ↓g_lst, ↓g_ix, ↓g_sl, ↓g_rev, ↓g_app, ↓g_upper, ↓t_and, ↓t_or, ↓t_not, ↓t_ite, ↓t_bl, ↓t_cmp, ↓t_cmp2, ↓t_call, ↓t_callK, ↓t_bi, ↓t_isi, ↓t_isiT, ↓t_ix, ↓l_nil, ↓l_cons, ↓lt_nil, ↓lt_cons, ↓looks_nil, ↓looks_cons, ↓moves_nil, ↓moves_cons, ↓i_seq, ↓i_rng1, ↓i_rng2, ↓i_enum, ↓i_zip, ↓it_list, ↓it_tuple, ↓it_s, ↓gg_n, ↓gg_t, ↓gg_ix, ↓gs_nil, ↓gs_cons, ↓g_tupS, ↓g_lstS, ↓g_lstCS, ↓g_mkL, ↓g_mkC, ↓g_ixT, ↓g_ixL, ↓g_negK, ↓g_asCell, ↓p_nil, ↓p_one, ↓s_pass, ↓s_brk, ↓s_cont, ↓s_never, ↓s_expr, ↓s_ret, ↓s_retN, ↓s_asg, ↓s_par, ↓s_par3, ↓g_rgV, ↓g_rgVK, ↓g_revL, ↓g_revT, ↓s_aug, ↓s_iff, ↓b_add, ↓b_sub, ↓b_mulr, ↓b_mull, ↓b_fdiv, ↓b_mod, ↓b_addLS, ↓b_addTS, ↓q_eqI, ↓q_neI, ↓q_eqB, ↓q_neB, ↓q_lt, ↓q_le, ↓q_gt, ↓q_ge, ↓q_isN, ↓q_isB, ↓q_isnB, ↓isB_b, ↓q_isnN, ↓q_inB, ↓q_notinB, ↓f_lenT, ↓f_lenL, ↓f_int, ↓f_abs, ↓f_max2, ↓f_min2, ↓f_tupleL, ↓f_tupleT, ↓f_listL, ↓f_listT, ↓f_divmod, ↓f_all, ↓f_any, ↓f_sum, ↓a_0, ↓a_1, ↓a_2, ↓t_v, ↓go_nil, ↓go_bind, ↓go_pure, ↓go_lookM, ↓go_lookTM, ↓go_truB, ↓go_noneM, ↓go_moveM, ↓go_ite, ↓go_fin, startE, tyB, isNone, Tgs.len, Exs.len, List.map_cons, List.map_nil, List.length_cons, List.length_nil, List.cons_append, List.nil_append, List.take_length, if_true, Bool.not_false, Bool.not_true, List.set_cons_zero, List.set_cons_succ, Nat.reduceAdd, Nat.reduceSub, List.reduceReplicate, Bool.false_eq_true, if_false, reduceIte, and_self, Bool.true_eq_false, decide_true, decide_false]
      refine s42 (by omega) h h2 fun q3 x5 y5 z5 h3 => ?_
      try simp (maxSteps := 2000000) (disch := first | omega | assumption | (simp only [List.length_map, List.length_append, List.length_cons, List.length_nil, List.length_take, List.length_drop, List.length_reverse, List.length_replicate]; omega)) only [↓w_nil, ↓w_cons, ↓g_comp, ↓g_comp2, ↓s_for, ↓s_while, ↓g_non, ↓g_bl, ↓g_int, ↓g_str, ↓g_v, ↓g_g, ↓g_get0, ↓g_gets, ↓g_neg, ↓g_bin, ↓g_cmp, ↓g_cmp2, ↓g_and, ↓g_or, ↓g_not, ↓g_ite, ↓g_call, ↓g_callK, ↓g_bi, ↓g_listC, ↓g_rgT, ↓g_rgL, ↓g_isi, ↓g_isiT, ↓g_tup, ↓g_lst, ↓g_ix, ↓g_sl, ↓g_rev, ↓g_app, ↓g_upper, ↓t_and, ↓t_or, ↓t_not, ↓t_ite, ↓t_bl, ↓t_cmp, ↓t_cmp2, ↓t_call, ↓t_callK, ↓t_bi, ↓t_isi, ↓t_isiT, ↓t_ix, ↓l_nil, ↓l_cons, ↓lt_nil, ↓lt_cons, ↓looks_nil, ↓looks_cons, ↓moves_nil, ↓moves_cons, ↓i_seq, ↓i_rng1, ↓i_rng2, ↓i_enum, ↓i_zip, ↓it_list, ↓it_tuple, ↓it_s, ↓gg_n, ↓gg_t, ↓gg_ix, ↓gs_nil, ↓gs_cons, ↓g_tupS, ↓g_lstS, ↓g_lstCS, ↓g_mkL, ↓g_mkC, ↓g_ixT, ↓g_ixL, ↓g_negK, ↓g_asCell, ↓p_nil, ↓p_one, ↓s_pass, ↓s_brk, ↓s_cont, ↓s_never, ↓s_expr, ↓s_ret, ↓s_retN, ↓s_asg, ↓s_par, ↓s_par3, ↓g_rgV, ↓g_rgVK, ↓g_revL, ↓g_revT, ↓s_aug, ↓s_iff, ↓b_add, ↓b_sub, ↓b_mulr, ↓b_mull, ↓b_fdiv, ↓b_mod, ↓b_addLS, ↓b_addTS, ↓q_eqI, ↓q_neI, ↓q_eqB, ↓q_neB, ↓q_lt, ↓q_le, ↓q_gt, ↓q_ge, ↓q_isN, ↓q_isB, ↓q_isnB, ↓isB_b, ↓q_isnN, ↓q_inB, ↓q_notinB, ↓f_lenT, ↓f_lenL, ↓f_int, ↓f_abs, ↓f_max2, ↓f_min2, ↓f_tupleL, ↓f_tupleT, ↓f_listL, ↓f_listT, ↓f_divmod, ↓f_all, ↓f_any, ↓f_sum, ↓a_0, ↓a_1, ↓a_2, ↓t_v, ↓go_nil, ↓go_bind, ↓go_pure, ↓go_lookM, ↓go_lookTM, ↓go_truB, ↓go_noneM, ↓go_moveM, ↓go_ite, ↓go_fin, startE, tyB, isNone, Tgs.len, Exs.len, List.map_cons, List.map_nil, List.length_cons, List.length_nil, List.cons_append, List.nil_append, List.take_length, if_true, Bool.not_false, Bool.not_true, List.set_cons_zero, List.set_cons_succ, Nat.reduceAdd, Nat.reduceSub, List.reduceReplicate, Bool.false_eq_true, if_false, reduceIte, and_self, Bool.true_eq_false, decide_true, decide_false]
      refine s41 (by omega) h (by omega) (by omega) (by omega) (by omega) fun q4 x1 y1 z1 h4 _ => ?_
      try simp (maxSteps := 2000000) (disch := first | omega | assumption | (simp only [List.length_map, List.length_append, List.length_cons, List.length_nil, List.length_take, List.length_drop, List.length_reverse, List.length_replicate]; omega)) only [↓w_nil, ↓w_cons, ↓g_comp, ↓g_comp2, ↓s_for, ↓s_while, ↓g_non, ↓g_bl, ↓g_int, ↓g_str, ↓g_v, ↓g_g, ↓g_get0, ↓g_gets, ↓g_neg, ↓g_bin, ↓g_cmp, ↓g_cmp2, ↓g_and, ↓g_or, ↓g_not, ↓g_ite, ↓g_call, ↓g_callK, ↓g_bi, ↓g_listC, ↓g_rgT, ↓g_rgL, ↓g_isi, ↓g_isiT, ↓g_tup, ↓g_lst, ↓g_ix, ↓g_sl, ↓g_rev, ↓g_app, ↓g_upper, ↓t_and, ↓t_or, ↓t_not, ↓t_ite, ↓t_bl, ↓t_cmp, ↓t_cmp2, ↓t_call, ↓t_callK, ↓t_bi, ↓t_isi, ↓t_isiT, ↓t_ix, ↓l_nil, ↓l_cons, ↓lt_nil, ↓lt_cons, ↓looks_nil, ↓looks_cons, ↓moves_nil, ↓moves_cons, ↓i_seq, ↓i_rng1, ↓i_rng2, ↓i_enum, ↓i_zip, ↓it_list, ↓it_tuple, ↓it_s, ↓gg_n, ↓gg_t, ↓gg_ix, ↓gs_nil, ↓gs_cons, ↓g_tupS, ↓g_lstS, ↓g_lstCS, ↓g_mkL, ↓g_mkC, ↓g_ixT, ↓g_ixL, ↓g_negK, ↓g_asCell, ↓p_nil, ↓p_one, ↓s_pass, ↓s_brk, ↓s_cont, ↓s_never, ↓s_expr, ↓s_ret, ↓s_retN, ↓s_asg, ↓s_par, ↓s_par3, ↓g_rgV, ↓g_rgVK, ↓g_revL, ↓g_revT, ↓s_aug, ↓s_iff, ↓b_add, ↓b_sub, ↓b_mulr, ↓b_mull, ↓b_fdiv, ↓b_mod, ↓b_addLS, ↓b_addTS, ↓q_eqI, ↓q_neI, ↓q_eqB, ↓q_neB, ↓q_lt, ↓q_le, ↓q_gt, ↓q_ge, ↓q_isN, ↓q_isB, ↓q_isnB, ↓isB_b, ↓q_isnN, ↓q_inB, ↓q_notinB, ↓f_lenT, ↓f_lenL, ↓f_int, ↓f_abs, ↓f_max2, ↓f_min2, ↓f_tupleL, ↓f_tupleT, ↓f_listL, ↓f_listT, ↓f_divmod, ↓f_all, ↓f_any, ↓f_sum, ↓a_0, ↓a_1, ↓a_2, ↓t_v, ↓go_nil, ↓go_bind, ↓go_pure, ↓go_lookM, ↓go_lookTM, ↓go_truB, ↓go_noneM, ↓go_moveM, ↓go_ite, ↓go_fin, startE, tyB, isNone, Tgs.len, Exs.len, List.map_cons, List.map_nil, List.length_cons, List.length_nil, List.cons_append, List.nil_append, List.take_length, if_true, Bool.not_false, Bool.not_true, List.set_cons_zero, List.set_cons_succ, Nat.reduceAdd, Nat.reduceSub, List.reduceReplicate, Bool.false_eq_true, if_false, reduceIte, and_self, Bool.true_eq_false, decide_true, decide_false]
      refine s32 (by omega) h (by simp) (by simp) fun e x5 y5 z5 he => ?_
      obtain ⟨ql, rfl, hql⟩ : ∃ ql, e = plD ql ∧ Pok ql := by
        simp only [List.mem_cons, List.not_mem_nil, or_false] at he
        rcases he with rfl | rfl | rfl
        · exact ⟨_, rfl, h1⟩
        · exact ⟨_, rfl, h3⟩
        · exact ⟨_, rfl, h4⟩
      try simp (maxSteps := 2000000) (disch := first | omega | assumption | (simp only [List.length_map, List.length_append, List.length_cons, List.length_nil, List.length_take, List.length_drop, List.length_reverse, List.length_replicate]; omega)) only [↓w_nil, ↓w_cons, ↓g_comp, ↓g_comp2, ↓s_for, ↓s_while, ↓g_non, ↓g_bl, ↓g_int, ↓g_str, ↓g_v, ↓g_g, ↓g_get0, ↓g_gets, ↓g_neg, ↓g_bin, ↓g_cmp, ↓g_cmp2, ↓g_and, ↓g_or, ↓g_not, ↓g_ite, ↓g_call, ↓g_callK, ↓g_bi, ↓g_listC, ↓g_rgT, ↓g_rgL, ↓g_isi, ↓g_isiT, ↓g_tup, ↓g_lst, ↓g_ix, ↓g_sl, ↓g_rev, ↓g_app, ↓g_upper, ↓t_and, ↓t_or, ↓t_not, ↓t_ite, ↓t_bl, ↓t_cmp, ↓t_cmp2, ↓t_call, ↓t_callK, ↓t_bi, ↓t_isi, ↓t_isiT, ↓t_ix, ↓l_nil, ↓l_cons, ↓lt_nil, ↓lt_cons, ↓looks_nil, ↓looks_cons, ↓moves_nil, ↓moves_cons, ↓i_seq, ↓i_rng1, ↓i_rng2, ↓i_enum, ↓i_zip, ↓it_list, ↓it_tuple, ↓it_s, ↓gg_n, ↓gg_t, ↓gg_ix, ↓gs_nil, ↓gs_cons, ↓g_tupS, ↓g_lstS, ↓g_lstCS, ↓g_mkL, ↓g_mkC, ↓g_ixT, ↓g_ixL, ↓g_negK, ↓g_asCell, ↓p_nil, ↓p_one, ↓s_pass, ↓s_brk, ↓s_cont, ↓s_never, ↓s_expr, ↓s_ret, ↓s_retN, ↓s_asg, ↓s_par, ↓s_par3, ↓g_rgV, ↓g_rgVK, ↓g_revL, ↓g_revT, ↓s_aug, ↓s_iff, ↓b_add, ↓b_sub, ↓b_mulr, ↓b_mull, ↓b_fdiv, ↓b_mod, ↓b_addLS, ↓b_addTS, ↓q_eqI, ↓q_neI, ↓q_eqB, ↓q_neB, ↓q_lt, ↓q_le, ↓q_gt, ↓q_ge, ↓q_isN, ↓q_isB, ↓q_isnB, ↓isB_b, ↓q_isnN, ↓q_inB, ↓q_notinB, ↓f_lenT, ↓f_lenL, ↓f_int, ↓f_abs, ↓f_max2, ↓f_min2, ↓f_tupleL, ↓f_tupleT, ↓f_listL, ↓f_listT, ↓f_divmod, ↓f_all, ↓f_any, ↓f_sum, ↓a_0, ↓a_1, ↓a_2, ↓t_v, ↓go_nil, ↓go_bind, ↓go_pure, ↓go_lookM, ↓go_lookTM, ↓go_truB, ↓go_noneM, ↓go_moveM, ↓go_ite, ↓go_fin, startE, tyB, isNone, Tgs.len, Exs.len, List.map_cons, List.map_nil, List.length_cons, List.length_nil, List.cons_append, List.nil_append, List.take_length, if_true, Bool.not_false, Bool.not_true, List.set_cons_zero, List.set_cons_succ, Nat.reduceAdd, Nat.reduceSub, List.reduceReplicate, Bool.false_eq_true, if_false, reduceIte, and_self, Bool.true_eq_false, decide_true, decide_false]
      exact ⟨_, rfl, _, _, _, _, _, _, _, _, ql, rfl, rfl, hql⟩
    rintro ρ s ⟨x1, x4, x5, x6, x7, x, y, z, ql, rfl, rfl, hql⟩
    refine go_seq (fun ρ s => ∃ (x1 x5 x6 x7 : Option Val) (x y z : Int) (ml : Pl), ρ = [some (.r c), x1, some (.d (plD pl)), some (.d (plD ql)), some (.d (plD ml)), x5, x6, x7] ∧ s = U st c x y z ∧ Pok ml ∧ ∀ p ∈ pl, p ∈ ml) ?_ ?_
    · have l4 := hp.len
      simp (maxSteps := 2000000) (disch := first | omega | assumption | (simp only [List.length_map, List.length_append, List.length_cons, List.length_nil, List.length_take, List.length_drop, List.length_reverse, List.length_replicate]; omega)) only [↓w_nil, ↓w_cons, ↓g_comp, ↓g_comp2, ↓s_for, ↓s_while, ↓g_non, ↓g_bl, ↓g_int, ↓g_str, ↓g_v, ↓g_g, ↓g_get0, ↓g_gets, ↓g_neg, ↓g_bin, ↓g_cmp, ↓g_cmp2, ↓g_and, ↓g_or, ↓g_not, ↓g_ite, ↓g_call, ↓g_callK, ↓g_bi, ↓g_listC, ↓g_rgT, ↓g_rgL, ↓g_isi, ↓g_isiT, ↓g_tup, ↓g_lst, ↓g_ix, ↓g_sl, ↓g_rev, ↓g_app, ↓g_upper, ↓t_and, ↓t_or, ↓t_not, ↓t_ite, ↓t_bl, ↓t_cmp, ↓t_cmp2, ↓t_call, ↓t_callK, ↓t_bi, ↓t_isi, ↓t_isiT, ↓t_ix, ↓l_nil, ↓l_cons, ↓lt_nil, ↓lt_cons, ↓looks_nil, ↓looks_cons, ↓moves_nil, ↓moves_cons, ↓i_seq, ↓i_rng1, ↓i_rng2, ↓i_enum, ↓i_zip, ↓it_list, ↓it_tuple, ↓it_s, ↓gg_n, ↓gg_t, ↓gg_ix, ↓gs_nil, ↓gs_cons, ↓g_tupS, ↓g_lstS, ↓g_lstCS, ↓g_mkL, ↓g_mkC, ↓g_ixT, ↓g_ixL, ↓g_negK, ↓g_asCell, ↓p_nil, ↓p_one, ↓s_pass, ↓s_brk, ↓s_cont, ↓s_never, ↓s_expr, ↓s_ret, ↓s_retN, ↓s_asg, ↓s_par, ↓s_par3, ↓g_rgV, ↓g_rgVK, ↓g_revL, ↓g_revT, ↓s_aug, ↓s_iff, ↓b_add, ↓b_sub, ↓b_mulr, ↓b_mull, ↓b_fdiv, ↓b_mod, ↓b_addLS, ↓b_addTS, ↓q_eqI, ↓q_neI, ↓q_eqB, ↓q_neB, ↓q_lt, ↓q_le, ↓q_gt, ↓q_ge, ↓q_isN, ↓q_isB, ↓q_isnB, ↓isB_b, ↓q_isnN, ↓q_inB, ↓q_notinB, ↓f_lenT, ↓f_lenL, ↓f_int, ↓f_abs, ↓f_max2, ↓f_min2, ↓f_tupleL, ↓f_tupleT, ↓f_listL, ↓f_listT, ↓f_divmod, ↓f_all, ↓f_any, ↓f_sum, ↓a_0, ↓a_1, ↓a_2, ↓t_v, ↓go_nil, ↓go_bind, ↓go_pure, ↓go_lookM, ↓go_lookTM, ↓go_truB, ↓go_noneM, ↓go_moveM, ↓go_ite, ↓go_fin, startE, tyB, isNone, Tgs.len, Exs.len, List.map_cons, List.map_nil, List.length_cons, List.length_nil, List.cons_append, List.nil_append, List.take_length, if_true, Bool.not_false, Bool.not_true, List.set_cons_zero, List.set_cons_succ, Nat.reduceAdd, Nat.reduceSub, List.reduceReplicate, Bool.false_eq_true, if_false, reduceIte, and_self, Bool.true_eq_false, decide_true, decide_false]
      refine s31 (by omega) h (by omega) (by omega) fun ra x1 y1 z1 ra0 ra1 => ?_
      try simp (maxSteps := 2000000) (disch := first | omega | assumption | (simp only [List.length_map, List.length_append, List.length_cons, List.length_nil, List.length_take, List.length_drop, List.length_reverse, List.length_replicate]; omega)) only [↓w_nil, ↓w_cons, ↓g_comp, ↓g_comp2, ↓s_for, ↓s_while, ↓g_non, ↓g_bl, ↓g_int, ↓g_str, ↓g_v, ↓g_g, ↓g_get0, ↓g_gets, ↓g_neg, ↓g_bin, ↓g_cmp, ↓g_cmp2, ↓g_and, ↓g_or, ↓g_not, ↓g_ite, ↓g_call, ↓g_callK, ↓g_bi, ↓g_listC, ↓g_rgT, ↓g_rgL, ↓g_isi, ↓g_isiT, ↓g_tup, ↓g_lst, ↓g_ix, ↓g_sl, ↓g_rev, ↓g_app, ↓g_upper, ↓t_and, ↓t_or, ↓t_not, ↓t_ite, ↓t_bl, ↓t_cmp, ↓t_cmp2, ↓t_call, ↓t_callK, ↓t_bi, ↓t_isi, ↓t_isiT, ↓t_ix, ↓l_nil, ↓l_cons, ↓lt_nil, ↓lt_cons, ↓looks_nil, ↓looks_cons, ↓moves_nil, ↓moves_cons, ↓i_seq, ↓i_rng1, ↓i_rng2, ↓i_enum, ↓i_zip, ↓it_list, ↓it_tuple, ↓it_s, ↓gg_n, ↓gg_t, ↓gg_ix, ↓gs_nil, ↓gs_cons, ↓g_tupS, ↓g_lstS, ↓g_lstCS, ↓g_mkL, ↓g_mkC, ↓g_ixT, ↓g_ixL, ↓g_negK, ↓g_asCell, ↓p_nil, ↓p_one, ↓s_pass, ↓s_brk, ↓s_cont, ↓s_never, ↓s_expr, ↓s_ret, ↓s_retN, ↓s_asg, ↓s_par, ↓s_par3, ↓g_rgV, ↓g_rgVK, ↓g_revL, ↓g_revT, ↓s_aug, ↓s_iff, ↓b_add, ↓b_sub, ↓b_mulr, ↓b_mull, ↓b_fdiv, ↓b_mod, ↓b_addLS, ↓b_addTS, ↓q_eqI, ↓q_neI, ↓q_eqB, ↓q_neB, ↓q_lt, ↓q_le, ↓q_gt, ↓q_ge, ↓q_isN, ↓q_isB, ↓q_isnB, ↓isB_b, ↓q_isnN, ↓q_inB, ↓q_notinB, ↓f_lenT, ↓f_lenL, ↓f_int, ↓f_abs, ↓f_max2, ↓f_min2, ↓f_tupleL, ↓f_tupleT, ↓f_listL, ↓f_listT, ↓f_divmod, ↓f_all, ↓f_any, ↓f_sum, ↓a_0, ↓a_1, ↓a_2, ↓t_v, ↓go_nil, ↓go_bind, ↓go_pure, ↓go_lookM, ↓go_lookTM, ↓go_truB, ↓go_noneM, ↓go_moveM, ↓go_ite, ↓go_fin, startE, tyB, isNone, Tgs.len, Exs.len, List.map_cons, List.map_nil, List.length_cons, List.length_nil, List.cons_append, List.nil_append, List.take_length, if_true, Bool.not_false, Bool.not_true, List.set_cons_zero, List.set_cons_succ, Nat.reduceAdd, Nat.reduceSub, List.reduceReplicate, Bool.false_eq_true, if_false, reduceIte, and_self, Bool.true_eq_false, decide_true, decide_false]
      refine s31 (by omega) h (by omega) (by omega) fun rb x1 y1 z1 rb0 rb1 => ?_
      by_cases c4 : (pl.length : Int) < 4
      · simp (maxSteps := 2000000) (disch := first | omega | assumption | (simp only [List.length_map, List.length_append, List.length_cons, List.length_nil, List.length_take, List.length_drop, List.length_reverse, List.length_replicate]; omega)) only [plD, List.length_map, c4, b_mulT (xs := [_]) (k := 1) (by omega) (by omega) (by show 1 ≤ 1000; omega), show ∀ a : D, (List.replicate (1 : Int).toNat [a]).flatten = [a] from fun _ => rfl, ↓w_nil, ↓w_cons, ↓g_comp, ↓g_comp2, ↓s_for, ↓s_while, ↓g_non, ↓g_bl, ↓g_int, ↓g_str, ↓g_v, ↓g_g, ↓g_get0, ↓g_gets, ↓g_neg, ↓g_bin, ↓g_cmp, ↓g_cmp2, ↓g_and, ↓g_or, ↓g_not, ↓g_ite, ↓g_call, ↓g_callK, ↓g_bi, ↓g_listC, ↓g_rgT, ↓g_rgL, ↓g_isi, ↓g_isiT, ↓g_tup, ↓g_lst, ↓g_ix, ↓g_sl, ↓g_rev, ↓g_app, ↓g_upper, ↓t_and, ↓t_or, ↓t_not, ↓t_ite, ↓t_bl, ↓t_cmp, ↓t_cmp2, ↓t_call, ↓t_callK, ↓t_bi, ↓t_isi, ↓t_isiT, ↓t_ix, ↓l_nil, ↓l_cons, ↓lt_nil, ↓lt_cons, ↓looks_nil, ↓looks_cons, ↓moves_nil, ↓moves_cons, ↓i_seq, ↓i_rng1, ↓i_rng2, ↓i_enum, ↓i_zip, ↓it_list, ↓it_tuple, ↓it_s, ↓gg_n, ↓gg_t, ↓gg_ix, ↓gs_nil, ↓gs_cons, ↓g_tupS, ↓g_lstS, ↓g_lstCS, ↓g_mkL, ↓g_mkC, ↓g_ixT, ↓g_ixL, ↓g_negK, ↓g_asCell, ↓p_nil, ↓p_one, ↓s_pass, ↓s_brk, ↓s_cont, ↓s_never, ↓s_expr, ↓s_ret, ↓s_retN, ↓s_asg, ↓s_par, ↓s_par3, ↓g_rgV, ↓g_rgVK, ↓g_revL, ↓g_revT, ↓s_aug, ↓s_iff, ↓b_add, ↓b_sub, ↓b_mulr, ↓b_mull, ↓b_fdiv, ↓b_mod, ↓b_addLS, ↓b_addTS, ↓q_eqI, ↓q_neI, ↓q_eqB, ↓q_neB, ↓q_lt, ↓q_le, ↓q_gt, ↓q_ge, ↓q_isN, ↓q_isB, ↓q_isnB, ↓isB_b, ↓q_isnN, ↓q_inB, ↓q_notinB, ↓f_lenT, ↓f_lenL, ↓f_int, ↓f_abs, ↓f_max2, ↓f_min2, ↓f_tupleL, ↓f_tupleT, ↓f_listL, ↓f_listT, ↓f_divmod, ↓f_all, ↓f_any, ↓f_sum, ↓a_0, ↓a_1, ↓a_2, ↓t_v, ↓go_nil, ↓go_bind, ↓go_pure, ↓go_lookM, ↓go_lookTM, ↓go_truB, ↓go_noneM, ↓go_moveM, ↓go_ite, ↓go_fin, startE, tyB, isNone, Tgs.len, Exs.len, List.map_cons, List.map_nil, List.length_cons, List.length_nil, List.cons_append, List.nil_append, List.take_length, if_true, Bool.not_false, Bool.not_true, List.set_cons_zero, List.set_cons_succ, Nat.reduceAdd, Nat.reduceSub, List.reduceReplicate, Bool.false_eq_true, if_false, reduceIte, and_self, Bool.true_eq_false, decide_true, decide_false]
        refine ⟨_, rfl, _, _, _, _, _, _, _, pl ++ [(1 + ra, rb)], by rw [show (List.map pD (pl ++ [(1 + ra, rb)])) = List.map pD pl ++ [PyData.tuple [.int (1 + ra), .int rb]] by rw [List.map_append]; rfl], by first | rfl | trivial, ⟨by simp, by rw [List.length_append]; show pl.length + 1 ≤ 4; omega, fun q hq => ?_⟩, fun q hq => List.mem_append_left _ hq⟩
        rcases List.mem_append.mp hq with hq | hq
        · exact hp.all q hq
        · rw [List.mem_singleton.mp hq]
          exact ⟨by show 1 ≤ 1 + ra; omega, by show 1 + ra ≤ 10; omega, by show 0 ≤ rb; omega, by show rb ≤ 999; omega⟩
      · simp (maxSteps := 2000000) (disch := first | omega | assumption | (simp only [List.length_map, List.length_append, List.length_cons, List.length_nil, List.length_take, List.length_drop, List.length_reverse, List.length_replicate]; omega)) only [plD, List.length_map, c4, b_mulT (xs := [_]) (k := 0) (by omega) (by omega) (by show 1 ≤ 1000; omega), show ∀ a : D, (List.replicate (0 : Int).toNat [a]).flatten = [] from fun _ => rfl, List.append_nil, ↓w_nil, ↓w_cons, ↓g_comp, ↓g_comp2, ↓s_for, ↓s_while, ↓g_non, ↓g_bl, ↓g_int, ↓g_str, ↓g_v, ↓g_g, ↓g_get0, ↓g_gets, ↓g_neg, ↓g_bin, ↓g_cmp, ↓g_cmp2, ↓g_and, ↓g_or, ↓g_not, ↓g_ite, ↓g_call, ↓g_callK, ↓g_bi, ↓g_listC, ↓g_rgT, ↓g_rgL, ↓g_isi, ↓g_isiT, ↓g_tup, ↓g_lst, ↓g_ix, ↓g_sl, ↓g_rev, ↓g_app, ↓g_upper, ↓t_and, ↓t_or, ↓t_not, ↓t_ite, ↓t_bl, ↓t_cmp, ↓t_cmp2, ↓t_call, ↓t_callK, ↓t_bi, ↓t_isi, ↓t_isiT, ↓t_ix, ↓l_nil, ↓l_cons, ↓lt_nil, ↓lt_cons, ↓looks_nil, ↓looks_cons, ↓moves_nil, ↓moves_cons, ↓i_seq, ↓i_rng1, ↓i_rng2, ↓i_enum, ↓i_zip, ↓it_list, ↓it_tuple, ↓it_s, ↓gg_n, ↓gg_t, ↓gg_ix, ↓gs_nil, ↓gs_cons, ↓g_tupS, ↓g_lstS, ↓g_lstCS, ↓g_mkL, ↓g_mkC, ↓g_ixT, ↓g_ixL, ↓g_negK, ↓g_asCell, ↓p_nil, ↓p_one, ↓s_pass, ↓s_brk, ↓s_cont, ↓s_never, ↓s_expr, ↓s_ret, ↓s_retN, ↓s_asg, ↓s_par, ↓s_par3, ↓g_rgV, ↓g_rgVK, ↓g_revL, ↓g_revT, ↓s_aug, ↓s_iff, ↓b_add, ↓b_sub, ↓b_mulr, ↓b_mull, ↓b_fdiv, ↓b_mod, ↓b_addLS, ↓b_addTS, ↓q_eqI, ↓q_neI, ↓q_eqB, ↓q_neB, ↓q_lt, ↓q_le, ↓q_gt, ↓q_ge, ↓q_isN, ↓q_isB, ↓q_isnB, ↓isB_b, ↓q_isnN, ↓q_inB, ↓q_notinB, ↓f_lenT, ↓f_lenL, ↓f_int, ↓f_abs, ↓f_max2, ↓f_min2, ↓f_tupleL, ↓f_tupleT, ↓f_listL, ↓f_listT, ↓f_divmod, ↓f_all, ↓f_any, ↓f_sum, ↓a_0, ↓a_1, ↓a_2, ↓t_v, ↓go_nil, ↓go_bind, ↓go_pure, ↓go_lookM, ↓go_lookTM, ↓go_truB, ↓go_noneM, ↓go_moveM, ↓go_ite, ↓go_fin, startE, tyB, isNone, Tgs.len, Exs.len, List.map_cons, List.map_nil, List.length_cons, List.length_nil, List.cons_append, List.nil_append, List.take_length, if_true, Bool.not_false, Bool.not_true, List.set_cons_zero, List.set_cons_succ, Nat.reduceAdd, Nat.reduceSub, List.reduceReplicate, Bool.false_eq_true, if_false, reduceIte, and_self, Bool.true_eq_false, decide_true, decide_false]
        exact ⟨_, rfl, _, _, _, _, _, _, _, pl, rfl, rfl, hp, fun q hq => hq⟩
    rintro ρ s ⟨x1, x5, x6, x7, x, y, z, ml, rfl, rfl, hml, hsub⟩
    refine go_seq (fun ρ s => ∃ (x1 x5 x6 x7 : Option Val) (x y z : Int), ρ = [some (.r c), x1, some (.d (plD pl)), some (.d (plD ql)), some (.d (plD ml)), x5, x6, x7] ∧ s = U st c x y z) ?_ ?_
    · rw [s_for]
      simp (maxSteps := 2000000) (disch := first | omega | assumption | (simp only [List.length_map, List.length_append, List.length_cons, List.length_nil, List.length_take, List.length_drop, List.length_reverse, List.length_replicate]; omega)) only [↓it_tuple, ↓w_nil, ↓w_cons, ↓g_comp, ↓g_comp2, ↓s_for, ↓s_while, ↓g_non, ↓g_bl, ↓g_int, ↓g_str, ↓g_v, ↓g_g, ↓g_get0, ↓g_gets, ↓g_neg, ↓g_bin, ↓g_cmp, ↓g_cmp2, ↓g_and, ↓g_or, ↓g_not, ↓g_ite, ↓g_call, ↓g_callK, ↓g_bi, ↓g_listC, ↓g_rgT, ↓g_rgL, ↓g_isi, ↓g_isiT, ↓g_tup, ↓g_lst, ↓g_ix, ↓g_sl, ↓g_rev, ↓g_app, ↓g_upper, ↓t_and, ↓t_or, ↓t_not, ↓t_ite, ↓t_bl, ↓t_cmp, ↓t_cmp2, ↓t_call, ↓t_callK, ↓t_bi, ↓t_isi, ↓t_isiT, ↓t_ix, ↓l_nil, ↓l_cons, ↓lt_nil, ↓lt_cons, ↓looks_nil, ↓looks_cons, ↓moves_nil, ↓moves_cons, ↓i_seq, ↓i_rng1, ↓i_rng2, ↓i_enum, ↓i_zip, ↓it_list, ↓it_tuple, ↓it_s, ↓gg_n, ↓gg_t, ↓gg_ix, ↓gs_nil, ↓gs_cons, ↓g_tupS, ↓g_lstS, ↓g_lstCS, ↓g_mkL, ↓g_mkC, ↓g_ixT, ↓g_ixL, ↓g_negK, ↓g_asCell, ↓p_nil, ↓p_one, ↓s_pass, ↓s_brk, ↓s_cont, ↓s_never, ↓s_expr, ↓s_ret, ↓s_retN, ↓s_asg, ↓s_par, ↓s_par3, ↓g_rgV, ↓g_rgVK, ↓g_revL, ↓g_revT, ↓s_aug, ↓s_iff, ↓b_add, ↓b_sub, ↓b_mulr, ↓b_mull, ↓b_fdiv, ↓b_mod, ↓b_addLS, ↓b_addTS, ↓q_eqI, ↓q_neI, ↓q_eqB, ↓q_neB, ↓q_lt, ↓q_le, ↓q_gt, ↓q_ge, ↓q_isN, ↓q_isB, ↓q_isnB, ↓isB_b, ↓q_isnN, ↓q_inB, ↓q_notinB, ↓f_lenT, ↓f_lenL, ↓f_int, ↓f_abs, ↓f_max2, ↓f_min2, ↓f_tupleL, ↓f_tupleT, ↓f_listL, ↓f_listT, ↓f_divmod, ↓f_all, ↓f_any, ↓f_sum, ↓a_0, ↓a_1, ↓a_2, ↓t_v, ↓go_nil, ↓go_bind, ↓go_pure, ↓go_lookM, ↓go_lookTM, ↓go_truB, ↓go_noneM, ↓go_moveM, ↓go_ite, ↓go_fin, startE, tyB, isNone, Tgs.len, Exs.len, List.map_cons, List.map_nil, List.length_cons, List.length_nil, List.cons_append, List.nil_append, List.take_length, if_true, Bool.not_false, Bool.not_true, List.set_cons_zero, List.set_cons_succ, Nat.reduceAdd, Nat.reduceSub, List.reduceReplicate, Bool.false_eq_true, if_false, reduceIte, and_self, Bool.true_eq_false, decide_true, decide_false]
      refine go_cons.mpr ?_
      simp (maxSteps := 2000000) (disch := first | omega | assumption | (simp only [List.length_map, List.length_append, List.length_cons, List.length_nil, List.length_take, List.length_drop, List.length_reverse, List.length_replicate]; omega)) only [↓w_nil, ↓w_cons, ↓g_comp, ↓g_comp2, ↓s_for, ↓s_while, ↓g_non, ↓g_bl, ↓g_int, ↓g_str, ↓g_v, ↓g_g, ↓g_get0, ↓g_gets, ↓g_neg, ↓g_bin, ↓g_cmp, ↓g_cmp2, ↓g_and, ↓g_or, ↓g_not, ↓g_ite, ↓g_call, ↓g_callK, ↓g_bi, ↓g_listC, ↓g_rgT, ↓g_rgL, ↓g_isi, ↓g_isiT, ↓g_tup, ↓g_lst, ↓g_ix, ↓g_sl, ↓g_rev, ↓g_app, ↓g_upper, ↓t_and, ↓t_or, ↓t_not, ↓t_ite, ↓t_bl, ↓t_cmp, ↓t_cmp2, ↓t_call, ↓t_callK, ↓t_bi, ↓t_isi, ↓t_isiT, ↓t_ix, ↓l_nil, ↓l_cons, ↓lt_nil, ↓lt_cons, ↓looks_nil, ↓looks_cons, ↓moves_nil, ↓moves_cons, ↓i_seq, ↓i_rng1, ↓i_rng2, ↓i_enum, ↓i_zip, ↓it_list, ↓it_tuple, ↓it_s, ↓gg_n, ↓gg_t, ↓gg_ix, ↓gs_nil, ↓gs_cons, ↓g_tupS, ↓g_lstS, ↓g_lstCS, ↓g_mkL, ↓g_mkC, ↓g_ixT, ↓g_ixL, ↓g_negK, ↓g_asCell, ↓p_nil, ↓p_one, ↓s_pass, ↓s_brk, ↓s_cont, ↓s_never, ↓s_expr, ↓s_ret, ↓s_retN, ↓s_asg, ↓s_par, ↓s_par3, ↓g_rgV, ↓g_rgVK, ↓g_revL, ↓g_revT, ↓s_aug, ↓s_iff, ↓b_add, ↓b_sub, ↓b_mulr, ↓b_mull, ↓b_fdiv, ↓b_mod, ↓b_addLS, ↓b_addTS, ↓q_eqI, ↓q_neI, ↓q_eqB, ↓q_neB, ↓q_lt, ↓q_le, ↓q_gt, ↓q_ge, ↓q_isN, ↓q_isB, ↓q_isnB, ↓isB_b, ↓q_isnN, ↓q_inB, ↓q_notinB, ↓f_lenT, ↓f_lenL, ↓f_int, ↓f_abs, ↓f_max2, ↓f_min2, ↓f_tupleL, ↓f_tupleT, ↓f_listL, ↓f_listT, ↓f_divmod, ↓f_all, ↓f_any, ↓f_sum, ↓a_0, ↓a_1, ↓a_2, ↓t_v, ↓go_nil, ↓go_bind, ↓go_pure, ↓go_lookM, ↓go_lookTM, ↓go_truB, ↓go_noneM, ↓go_moveM, ↓go_ite, ↓go_fin, startE, tyB, isNone, Tgs.len, Exs.len, List.map_cons, List.map_nil, List.length_cons, List.length_nil, List.cons_append, List.nil_append, List.take_length, if_true, Bool.not_false, Bool.not_true, List.set_cons_zero, List.set_cons_succ, Nat.reduceAdd, Nat.reduceSub, List.reduceReplicate, Bool.false_eq_true, if_false, reduceIte, and_self, Bool.true_eq_false, decide_true, decide_false]
      refine s44 (by omega) h hp hql fun x y z => ?_
      try simp (maxSteps := 2000000) (disch := first | omega | assumption | (simp only [List.length_map, List.length_append, List.length_cons, List.length_nil, List.length_take, List.length_drop, List.length_reverse, List.length_replicate]; omega)) only [↓w_nil, ↓w_cons, ↓g_comp, ↓g_comp2, ↓s_for, ↓s_while, ↓g_non, ↓g_bl, ↓g_int, ↓g_str, ↓g_v, ↓g_g, ↓g_get0, ↓g_gets, ↓g_neg, ↓g_bin, ↓g_cmp, ↓g_cmp2, ↓g_and, ↓g_or, ↓g_not, ↓g_ite, ↓g_call, ↓g_callK, ↓g_bi, ↓g_listC, ↓g_rgT, ↓g_rgL, ↓g_isi, ↓g_isiT, ↓g_tup, ↓g_lst, ↓g_ix, ↓g_sl, ↓g_rev, ↓g_app, ↓g_upper, ↓t_and, ↓t_or, ↓t_not, ↓t_ite, ↓t_bl, ↓t_cmp, ↓t_cmp2, ↓t_call, ↓t_callK, ↓t_bi, ↓t_isi, ↓t_isiT, ↓t_ix, ↓l_nil, ↓l_cons, ↓lt_nil, ↓lt_cons, ↓looks_nil, ↓looks_cons, ↓moves_nil, ↓moves_cons, ↓i_seq, ↓i_rng1, ↓i_rng2, ↓i_enum, ↓i_zip, ↓it_list, ↓it_tuple, ↓it_s, ↓gg_n, ↓gg_t, ↓gg_ix, ↓gs_nil, ↓gs_cons, ↓g_tupS, ↓g_lstS, ↓g_lstCS, ↓g_mkL, ↓g_mkC, ↓g_ixT, ↓g_ixL, ↓g_negK, ↓g_asCell, ↓p_nil, ↓p_one, ↓s_pass, ↓s_brk, ↓s_cont, ↓s_never, ↓s_expr, ↓s_ret, ↓s_retN, ↓s_asg, ↓s_par, ↓s_par3, ↓g_rgV, ↓g_rgVK, ↓g_revL, ↓g_revT, ↓s_aug, ↓s_iff, ↓b_add, ↓b_sub, ↓b_mulr, ↓b_mull, ↓b_fdiv, ↓b_mod, ↓b_addLS, ↓b_addTS, ↓q_eqI, ↓q_neI, ↓q_eqB, ↓q_neB, ↓q_lt, ↓q_le, ↓q_gt, ↓q_ge, ↓q_isN, ↓q_isB, ↓q_isnB, ↓isB_b, ↓q_isnN, ↓q_inB, ↓q_notinB, ↓f_lenT, ↓f_lenL, ↓f_int, ↓f_abs, ↓f_max2, ↓f_min2, ↓f_tupleL, ↓f_tupleT, ↓f_listL, ↓f_listT, ↓f_divmod, ↓f_all, ↓f_any, ↓f_sum, ↓a_0, ↓a_1, ↓a_2, ↓t_v, ↓go_nil, ↓go_bind, ↓go_pure, ↓go_lookM, ↓go_lookTM, ↓go_truB, ↓go_noneM, ↓go_moveM, ↓go_ite, ↓go_fin, startE, tyB, isNone, Tgs.len, Exs.len, List.map_cons, List.map_nil, List.length_cons, List.length_nil, List.cons_append, List.nil_append, List.take_length, if_true, Bool.not_false, Bool.not_true, List.set_cons_zero, List.set_cons_succ, Nat.reduceAdd, Nat.reduceSub, List.reduceReplicate, Bool.false_eq_true, if_false, reduceIte, and_self, Bool.true_eq_false, decide_true, decide_false]
      refine go_cons.mpr ?_
      simp (maxSteps := 2000000) (disch := first | omega | assumption | (simp only [List.length_map, List.length_append, List.length_cons, List.length_nil, List.length_take, List.length_drop, List.length_reverse, List.length_replicate]; omega)) only [↓w_nil, ↓w_cons, ↓g_comp, ↓g_comp2, ↓s_for, ↓s_while, ↓g_non, ↓g_bl, ↓g_int, ↓g_str, ↓g_v, ↓g_g, ↓g_get0, ↓g_gets, ↓g_neg, ↓g_bin, ↓g_cmp, ↓g_cmp2, ↓g_and, ↓g_or, ↓g_not, ↓g_ite, ↓g_call, ↓g_callK, ↓g_bi, ↓g_listC, ↓g_rgT, ↓g_rgL, ↓g_isi, ↓g_isiT, ↓g_tup, ↓g_lst, ↓g_ix, ↓g_sl, ↓g_rev, ↓g_app, ↓g_upper, ↓t_and, ↓t_or, ↓t_not, ↓t_ite, ↓t_bl, ↓t_cmp, ↓t_cmp2, ↓t_call, ↓t_callK, ↓t_bi, ↓t_isi, ↓t_isiT, ↓t_ix, ↓l_nil, ↓l_cons, ↓lt_nil, ↓lt_cons, ↓looks_nil, ↓looks_cons, ↓moves_nil, ↓moves_cons, ↓i_seq, ↓i_rng1, ↓i_rng2, ↓i_enum, ↓i_zip, ↓it_list, ↓it_tuple, ↓it_s, ↓gg_n, ↓gg_t, ↓gg_ix, ↓gs_nil, ↓gs_cons, ↓g_tupS, ↓g_lstS, ↓g_lstCS, ↓g_mkL, ↓g_mkC, ↓g_ixT, ↓g_ixL, ↓g_negK, ↓g_asCell, ↓p_nil, ↓p_one, ↓s_pass, ↓s_brk, ↓s_cont, ↓s_never, ↓s_expr, ↓s_ret, ↓s_retN, ↓s_asg, ↓s_par, ↓s_par3, ↓g_rgV, ↓g_rgVK, ↓g_revL, ↓g_revT, ↓s_aug, ↓s_iff, ↓b_add, ↓b_sub, ↓b_mulr, ↓b_mull, ↓b_fdiv, ↓b_mod, ↓b_addLS, ↓b_addTS, ↓q_eqI, ↓q_neI, ↓q_eqB, ↓q_neB, ↓q_lt, ↓q_le, ↓q_gt, ↓q_ge, ↓q_isN, ↓q_isB, ↓q_isnB, ↓isB_b, ↓q_isnN, ↓q_inB, ↓q_notinB, ↓f_lenT, ↓f_lenL, ↓f_int, ↓f_abs, ↓f_max2, ↓f_min2, ↓f_tupleL, ↓f_tupleT, ↓f_listL, ↓f_listT, ↓f_divmod, ↓f_all, ↓f_any, ↓f_sum, ↓a_0, ↓a_1, ↓a_2, ↓t_v, ↓go_nil, ↓go_bind, ↓go_pure, ↓go_lookM, ↓go_lookTM, ↓go_truB, ↓go_noneM, ↓go_moveM, ↓go_ite, ↓go_fin, startE, tyB, isNone, Tgs.len, Exs.len, List.map_cons, List.map_nil, List.length_cons, List.length_nil, List.cons_append, List.nil_append, List.take_length, if_true, Bool.not_false, Bool.not_true, List.set_cons_zero, List.set_cons_succ, Nat.reduceAdd, Nat.reduceSub, List.reduceReplicate, Bool.false_eq_true, if_false, reduceIte, and_self, Bool.true_eq_false, decide_true, decide_false]
      refine s44 (by omega) h hql hp fun x y z => ?_
      try simp (maxSteps := 2000000) (disch := first | omega | assumption | (simp only [List.length_map, List.length_append, List.length_cons, List.length_nil, List.length_take, List.length_drop, List.length_reverse, List.length_replicate]; omega)) only [↓w_nil, ↓w_cons, ↓g_comp, ↓g_comp2, ↓s_for, ↓s_while, ↓g_non, ↓g_bl, ↓g_int, ↓g_str, ↓g_v, ↓g_g, ↓g_get0, ↓g_gets, ↓g_neg, ↓g_bin, ↓g_cmp, ↓g_cmp2, ↓g_and, ↓g_or, ↓g_not, ↓g_ite, ↓g_call, ↓g_callK, ↓g_bi, ↓g_listC, ↓g_rgT, ↓g_rgL, ↓g_isi, ↓g_isiT, ↓g_tup, ↓g_lst, ↓g_ix, ↓g_sl, ↓g_rev, ↓g_app, ↓g_upper, ↓t_and, ↓t_or, ↓t_not, ↓t_ite, ↓t_bl, ↓t_cmp, ↓t_cmp2, ↓t_call, ↓t_callK, ↓t_bi, ↓t_isi, ↓t_isiT, ↓t_ix, ↓l_nil, ↓l_cons, ↓lt_nil, ↓lt_cons, ↓looks_nil, ↓looks_cons, ↓moves_nil, ↓moves_cons, ↓i_seq, ↓i_rng1, ↓i_rng2, ↓i_enum, ↓i_zip, ↓it_list, ↓it_tuple, ↓it_s, ↓gg_n, ↓gg_t, ↓gg_ix, ↓gs_nil, ↓gs_cons, ↓g_tupS, ↓g_lstS, ↓g_lstCS, ↓g_mkL, ↓g_mkC, ↓g_ixT, ↓g_ixL, ↓g_negK, ↓g_asCell, ↓p_nil, ↓p_one, ↓s_pass, ↓s_brk, ↓s_cont, ↓s_never, ↓s_expr, ↓s_ret, ↓s_retN, ↓s_asg, ↓s_par, ↓s_par3, ↓g_rgV, ↓g_rgVK, ↓g_revL, ↓g_revT, ↓s_aug, ↓s_iff, ↓b_add, ↓b_sub, ↓b_mulr, ↓b_mull, ↓b_fdiv, ↓b_mod, ↓b_addLS, ↓b_addTS, ↓q_eqI, ↓q_neI, ↓q_eqB, ↓q_neB, ↓q_lt, ↓q_le, ↓q_gt, ↓q_ge, ↓q_isN, ↓q_isB, ↓q_isnB, ↓isB_b, ↓q_isnN, ↓q_inB, ↓q_notinB, ↓f_lenT, ↓f_lenL, ↓f_int, ↓f_abs, ↓f_max2, ↓f_min2, ↓f_tupleL, ↓f_tupleT, ↓f_listL, ↓f_listT, ↓f_divmod, ↓f_all, ↓f_any, ↓f_sum, ↓a_0, ↓a_1, ↓a_2, ↓t_v, ↓go_nil, ↓go_bind, ↓go_pure, ↓go_lookM, ↓go_lookTM, ↓go_truB, ↓go_noneM, ↓go_moveM, ↓go_ite, ↓go_fin, startE, tyB, isNone, Tgs.len, Exs.len, List.map_cons, List.map_nil, List.length_cons, List.length_nil, List.cons_append, List.nil_append, List.take_length, if_true, Bool.not_false, Bool.not_true, List.set_cons_zero, List.set_cons_succ, Nat.reduceAdd, Nat.reduceSub, List.reduceReplicate, Bool.false_eq_true, if_false, reduceIte, and_self, Bool.true_eq_false, decide_true, decide_false]
      refine go_cons.mpr ?_
      simp (maxSteps := 2000000) (disch := first | omega | assumption | (simp only [List.length_map, List.length_append, List.length_cons, List.length_nil, List.length_take, List.length_drop, List.length_reverse, List.length_replicate]; omega)) only [↓w_nil, ↓w_cons, ↓g_comp, ↓g_comp2, ↓s_for, ↓s_while, ↓g_non, ↓g_bl, ↓g_int, ↓g_str, ↓g_v, ↓g_g, ↓g_get0, ↓g_gets, ↓g_neg, ↓g_bin, ↓g_cmp, ↓g_cmp2, ↓g_and, ↓g_or, ↓g_not, ↓g_ite, ↓g_call, ↓g_callK, ↓g_bi, ↓g_listC, ↓g_rgT, ↓g_rgL, ↓g_isi, ↓g_isiT, ↓g_tup, ↓g_lst, ↓g_ix, ↓g_sl, ↓g_rev, ↓g_app, ↓g_upper, ↓t_and, ↓t_or, ↓t_not, ↓t_ite, ↓t_bl, ↓t_cmp, ↓t_cmp2, ↓t_call, ↓t_callK, ↓t_bi, ↓t_isi, ↓t_isiT, ↓t_ix, ↓l_nil, ↓l_cons, ↓lt_nil, ↓lt_cons, ↓looks_nil, ↓looks_cons, ↓moves_nil, ↓moves_cons, ↓i_seq, ↓i_rng1, ↓i_rng2, ↓i_enum, ↓i_zip, ↓it_list, ↓it_tuple, ↓it_s, ↓gg_n, ↓gg_t, ↓gg_ix, ↓gs_nil, ↓gs_cons, ↓g_tupS, ↓g_lstS, ↓g_lstCS, ↓g_mkL, ↓g_mkC, ↓g_ixT, ↓g_ixL, ↓g_negK, ↓g_asCell, ↓p_nil, ↓p_one, ↓s_pass, ↓s_brk, ↓s_cont, ↓s_never, ↓s_expr, ↓s_ret, ↓s_retN, ↓s_asg, ↓s_par, ↓s_par3, ↓g_rgV, ↓g_rgVK, ↓g_revL, ↓g_revT, ↓s_aug, ↓s_iff, ↓b_add, ↓b_sub, ↓b_mulr, ↓b_mull, ↓b_fdiv, ↓b_mod, ↓b_addLS, ↓b_addTS, ↓q_eqI, ↓q_neI, ↓q_eqB, ↓q_neB, ↓q_lt, ↓q_le, ↓q_gt, ↓q_ge, ↓q_isN, ↓q_isB, ↓q_isnB, ↓isB_b, ↓q_isnN, ↓q_inB, ↓q_notinB, ↓f_lenT, ↓f_lenL, ↓f_int, ↓f_abs, ↓f_max2, ↓f_min2, ↓f_tupleL, ↓f_tupleT, ↓f_listL, ↓f_listT, ↓f_divmod, ↓f_all, ↓f_any, ↓f_sum, ↓a_0, ↓a_1, ↓a_2, ↓t_v, ↓go_nil, ↓go_bind, ↓go_pure, ↓go_lookM, ↓go_lookTM, ↓go_truB, ↓go_noneM, ↓go_moveM, ↓go_ite, ↓go_fin, startE, tyB, isNone, Tgs.len, Exs.len, List.map_cons, List.map_nil, List.length_cons, List.length_nil, List.cons_append, List.nil_append, List.take_length, if_true, Bool.not_false, Bool.not_true, List.set_cons_zero, List.set_cons_succ, Nat.reduceAdd, Nat.reduceSub, List.reduceReplicate, Bool.false_eq_true, if_false, reduceIte, and_self, Bool.true_eq_false, decide_true, decide_false]
      refine s44 (by omega) h hp hml fun x y z => ?_
      try simp (maxSteps := 2000000) (disch := first | omega | assumption | (simp only [List.length_map, List.length_append, List.length_cons, List.length_nil, List.length_take, List.length_drop, List.length_reverse, List.length_replicate]; omega)) only [↓w_nil, ↓w_cons, ↓g_comp, ↓g_comp2, ↓s_for, ↓s_while, ↓g_non, ↓g_bl, ↓g_int, ↓g_str, ↓g_v, ↓g_g, ↓g_get0, ↓g_gets, ↓g_neg, ↓g_bin, ↓g_cmp, ↓g_cmp2, ↓g_and, ↓g_or, ↓g_not, ↓g_ite, ↓g_call, ↓g_callK, ↓g_bi, ↓g_listC, ↓g_rgT, ↓g_rgL, ↓g_isi, ↓g_isiT, ↓g_tup, ↓g_lst, ↓g_ix, ↓g_sl, ↓g_rev, ↓g_app, ↓g_upper, ↓t_and, ↓t_or, ↓t_not, ↓t_ite, ↓t_bl, ↓t_cmp, ↓t_cmp2, ↓t_call, ↓t_callK, ↓t_bi, ↓t_isi, ↓t_isiT, ↓t_ix, ↓l_nil, ↓l_cons, ↓lt_nil, ↓lt_cons, ↓looks_nil, ↓looks_cons, ↓moves_nil, ↓moves_cons, ↓i_seq, ↓i_rng1, ↓i_rng2, ↓i_enum, ↓i_zip, ↓it_list, ↓it_tuple, ↓it_s, ↓gg_n, ↓gg_t, ↓gg_ix, ↓gs_nil, ↓gs_cons, ↓g_tupS, ↓g_lstS, ↓g_lstCS, ↓g_mkL, ↓g_mkC, ↓g_ixT, ↓g_ixL, ↓g_negK, ↓g_asCell, ↓p_nil, ↓p_one, ↓s_pass, ↓s_brk, ↓s_cont, ↓s_never, ↓s_expr, ↓s_ret, ↓s_retN, ↓s_asg, ↓s_par, ↓s_par3, ↓g_rgV, ↓g_rgVK, ↓g_revL, ↓g_revT, ↓s_aug, ↓s_iff, ↓b_add, ↓b_sub, ↓b_mulr, ↓b_mull, ↓b_fdiv, ↓b_mod, ↓b_addLS, ↓b_addTS, ↓q_eqI, ↓q_neI, ↓q_eqB, ↓q_neB, ↓q_lt, ↓q_le, ↓q_gt, ↓q_ge, ↓q_isN, ↓q_isB, ↓q_isnB, ↓isB_b, ↓q_isnN, ↓q_inB, ↓q_notinB, ↓f_lenT, ↓f_lenL, ↓f_int, ↓f_abs, ↓f_max2, ↓f_min2, ↓f_tupleL, ↓f_tupleT, ↓f_listL, ↓f_listT, ↓f_divmod, ↓f_all, ↓f_any, ↓f_sum, ↓a_0, ↓a_1, ↓a_2, ↓t_v, ↓go_nil, ↓go_bind, ↓go_pure, ↓go_lookM, ↓go_lookTM, ↓go_truB, ↓go_noneM, ↓go_moveM, ↓go_ite, ↓go_fin, startE, tyB, isNone, Tgs.len, Exs.len, List.map_cons, List.map_nil, List.length_cons, List.length_nil, List.cons_append, List.nil_append, List.take_length, if_true, Bool.not_false, Bool.not_true, List.set_cons_zero, List.set_cons_succ, Nat.reduceAdd, Nat.reduceSub, List.reduceReplicate, Bool.false_eq_true, if_false, reduceIte, and_self, Bool.true_eq_false, decide_true, decide_false]
      exact ⟨_, rfl, _, _, _, _, _, _, _, rfl, rfl⟩
    rintro ρ s ⟨x1, x5, x6, x7, x, y, z, rfl, rfl⟩
    have e1 := lg_sub hp hml hsub
    have e2 : lg pl pl.reverse = none := lg_sub hp (rev_pok hp) fun q hq => List.mem_reverse.mpr hq
    have er : PyData.tuple (pl.map pD).reverse = plD pl.reverse := by unfold plD; rw [List.map_reverse]
    refine go_next (ρ1 := [some (.r c), x1, some (.d (plD pl)), some (.d (plD ql)), some (.d (plD ml)), x5, x6, x7]) ?_ ?_
    · simp (maxSteps := 2000000) (disch := first | omega | assumption | (simp only [List.length_map, List.length_append, List.length_cons, List.length_nil, List.length_take, List.length_drop, List.length_reverse, List.length_replicate]; omega)) only [↓w_nil, ↓w_cons, ↓g_comp, ↓g_comp2, ↓s_for, ↓s_while, ↓g_non, ↓g_bl, ↓g_int, ↓g_str, ↓g_v, ↓g_g, ↓g_get0, ↓g_gets, ↓g_neg, ↓g_bin, ↓g_cmp, ↓g_cmp2, ↓g_and, ↓g_or, ↓g_not, ↓g_ite, ↓g_call, ↓g_callK, ↓g_bi, ↓g_listC, ↓g_rgT, ↓g_rgL, ↓g_isi, ↓g_isiT, ↓g_tup, ↓g_lst, ↓g_ix, ↓g_sl, ↓g_rev, ↓g_app, ↓g_upper, ↓t_and, ↓t_or, ↓t_not, ↓t_ite, ↓t_bl, ↓t_cmp, ↓t_cmp2, ↓t_call, ↓t_callK, ↓t_bi, ↓t_isi, ↓t_isiT, ↓t_ix, ↓l_nil, ↓l_cons, ↓lt_nil, ↓lt_cons, ↓looks_nil, ↓looks_cons, ↓moves_nil, ↓moves_cons, ↓i_seq, ↓i_rng1, ↓i_rng2, ↓i_enum, ↓i_zip, ↓it_list, ↓it_tuple, ↓it_s, ↓gg_n, ↓gg_t, ↓gg_ix, ↓gs_nil, ↓gs_cons, ↓g_tupS, ↓g_lstS, ↓g_lstCS, ↓g_mkL, ↓g_mkC, ↓g_ixT, ↓g_ixL, ↓g_negK, ↓g_asCell, ↓p_nil, ↓p_one, ↓s_pass, ↓s_brk, ↓s_cont, ↓s_never, ↓s_expr, ↓s_ret, ↓s_retN, ↓s_asg, ↓s_par, ↓s_par3, ↓g_rgV, ↓g_rgVK, ↓g_revL, ↓g_revT, ↓s_aug, ↓s_iff, ↓b_add, ↓b_sub, ↓b_mulr, ↓b_mull, ↓b_fdiv, ↓b_mod, ↓b_addLS, ↓b_addTS, ↓q_eqI, ↓q_neI, ↓q_eqB, ↓q_neB, ↓q_lt, ↓q_le, ↓q_gt, ↓q_ge, ↓q_isN, ↓q_isB, ↓q_isnB, ↓isB_b, ↓q_isnN, ↓q_inB, ↓q_notinB, ↓f_lenT, ↓f_lenL, ↓f_int, ↓f_abs, ↓f_max2, ↓f_min2, ↓f_tupleL, ↓f_tupleT, ↓f_listL, ↓f_listT, ↓f_divmod, ↓f_all, ↓f_any, ↓f_sum, ↓a_0, ↓a_1, ↓a_2, ↓t_v, ↓go_nil, ↓go_bind, ↓go_pure, ↓go_lookM, ↓go_lookTM, ↓go_truB, ↓go_noneM, ↓go_moveM, ↓go_ite, ↓go_fin, startE, tyB, isNone, Tgs.len, Exs.len, List.map_cons, List.map_nil, List.length_cons, List.length_nil, List.cons_append, List.nil_append, List.take_length, if_true, Bool.not_false, Bool.not_true, List.set_cons_zero, List.set_cons_succ, Nat.reduceAdd, Nat.reduceSub, List.reduceReplicate, Bool.false_eq_true, if_false, reduceIte, and_self, Bool.true_eq_false, decide_true, decide_false]
      refine s27 (by omega) hp hml ?_
      rw [e1]
      simp (maxSteps := 2000000) (disch := first | omega | assumption | (simp only [List.length_map, List.length_append, List.length_cons, List.length_nil, List.length_take, List.length_drop, List.length_reverse, List.length_replicate]; omega)) only [Option.isNone, BEq.rfl, ↓w_nil, ↓w_cons, ↓g_comp, ↓g_comp2, ↓s_for, ↓s_while, ↓g_non, ↓g_bl, ↓g_int, ↓g_str, ↓g_v, ↓g_g, ↓g_get0, ↓g_gets, ↓g_neg, ↓g_bin, ↓g_cmp, ↓g_cmp2, ↓g_and, ↓g_or, ↓g_not, ↓g_ite, ↓g_call, ↓g_callK, ↓g_bi, ↓g_listC, ↓g_rgT, ↓g_rgL, ↓g_isi, ↓g_isiT, ↓g_tup, ↓g_lst, ↓g_ix, ↓g_sl, ↓g_rev, ↓g_app, ↓g_upper, ↓t_and, ↓t_or, ↓t_not, ↓t_ite, ↓t_bl, ↓t_cmp, ↓t_cmp2, ↓t_call, ↓t_callK, ↓t_bi, ↓t_isi, ↓t_isiT, ↓t_ix, ↓l_nil, ↓l_cons, ↓lt_nil, ↓lt_cons, ↓looks_nil, ↓looks_cons, ↓moves_nil, ↓moves_cons, ↓i_seq, ↓i_rng1, ↓i_rng2, ↓i_enum, ↓i_zip, ↓it_list, ↓it_tuple, ↓it_s, ↓gg_n, ↓gg_t, ↓gg_ix, ↓gs_nil, ↓gs_cons, ↓g_tupS, ↓g_lstS, ↓g_lstCS, ↓g_mkL, ↓g_mkC, ↓g_ixT, ↓g_ixL, ↓g_negK, ↓g_asCell, ↓p_nil, ↓p_one, ↓s_pass, ↓s_brk, ↓s_cont, ↓s_never, ↓s_expr, ↓s_ret, ↓s_retN, ↓s_asg, ↓s_par, ↓s_par3, ↓g_rgV, ↓g_rgVK, ↓g_revL, ↓g_revT, ↓s_aug, ↓s_iff, ↓b_add, ↓b_sub, ↓b_mulr, ↓b_mull, ↓b_fdiv, ↓b_mod, ↓b_addLS, ↓b_addTS, ↓q_eqI, ↓q_neI, ↓q_eqB, ↓q_neB, ↓q_lt, ↓q_le, ↓q_gt, ↓q_ge, ↓q_isN, ↓q_isB, ↓q_isnB, ↓isB_b, ↓q_isnN, ↓q_inB, ↓q_notinB, ↓f_lenT, ↓f_lenL, ↓f_int, ↓f_abs, ↓f_max2, ↓f_min2, ↓f_tupleL, ↓f_tupleT, ↓f_listL, ↓f_listT, ↓f_divmod, ↓f_all, ↓f_any, ↓f_sum, ↓a_0, ↓a_1, ↓a_2, ↓t_v, ↓go_nil, ↓go_bind, ↓go_pure, ↓go_lookM, ↓go_lookTM, ↓go_truB, ↓go_noneM, ↓go_moveM, ↓go_ite, ↓go_fin, startE, tyB, isNone, Tgs.len, Exs.len, List.map_cons, List.map_nil, List.length_cons, List.length_nil, List.cons_append, List.nil_append, List.take_length, if_true, Bool.not_false, Bool.not_true, List.set_cons_zero, List.set_cons_succ, Nat.reduceAdd, Nat.reduceSub, List.reduceReplicate, Bool.false_eq_true, if_false, reduceIte, and_self, Bool.true_eq_false, decide_true, decide_false]
      show Go (revK (.tuple (pl.map pD))) _ _
      rw [g_revT, er]
      refine s27 (by omega) hp (rev_pok hp) ?_
      rw [e2]
      simp (maxSteps := 2000000) (disch := first | omega | assumption | (simp only [List.length_map, List.length_append, List.length_cons, List.length_nil, List.length_take, List.length_drop, List.length_reverse, List.length_replicate]; omega)) only [Option.isNone, BEq.rfl, ↓w_nil, ↓w_cons, ↓g_comp, ↓g_comp2, ↓s_for, ↓s_while, ↓g_non, ↓g_bl, ↓g_int, ↓g_str, ↓g_v, ↓g_g, ↓g_get0, ↓g_gets, ↓g_neg, ↓g_bin, ↓g_cmp, ↓g_cmp2, ↓g_and, ↓g_or, ↓g_not, ↓g_ite, ↓g_call, ↓g_callK, ↓g_bi, ↓g_listC, ↓g_rgT, ↓g_rgL, ↓g_isi, ↓g_isiT, ↓g_tup, ↓g_lst, ↓g_ix, ↓g_sl, ↓g_rev, ↓g_app, ↓g_upper, ↓t_and, ↓t_or, ↓t_not, ↓t_ite, ↓t_bl, ↓t_cmp, ↓t_cmp2, ↓t_call, ↓t_callK, ↓t_bi, ↓t_isi, ↓t_isiT, ↓t_ix, ↓l_nil, ↓l_cons, ↓lt_nil, ↓lt_cons, ↓looks_nil, ↓looks_cons, ↓moves_nil, ↓moves_cons, ↓i_seq, ↓i_rng1, ↓i_rng2, ↓i_enum, ↓i_zip, ↓it_list, ↓it_tuple, ↓it_s, ↓gg_n, ↓gg_t, ↓gg_ix, ↓gs_nil, ↓gs_cons, ↓g_tupS, ↓g_lstS, ↓g_lstCS, ↓g_mkL, ↓g_mkC, ↓g_ixT, ↓g_ixL, ↓g_negK, ↓g_asCell, ↓p_nil, ↓p_one, ↓s_pass, ↓s_brk, ↓s_cont, ↓s_never, ↓s_expr, ↓s_ret, ↓s_retN, ↓s_asg, ↓s_par, ↓s_par3, ↓g_rgV, ↓g_rgVK, ↓g_revL, ↓g_revT, ↓s_aug, ↓s_iff, ↓b_add, ↓b_sub, ↓b_mulr, ↓b_mull, ↓b_fdiv, ↓b_mod, ↓b_addLS, ↓b_addTS, ↓q_eqI, ↓q_neI, ↓q_eqB, ↓q_neB, ↓q_lt, ↓q_le, ↓q_gt, ↓q_ge, ↓q_isN, ↓q_isB, ↓q_isnB, ↓isB_b, ↓q_isnN, ↓q_inB, ↓q_notinB, ↓f_lenT, ↓f_lenL, ↓f_int, ↓f_abs, ↓f_max2, ↓f_min2, ↓f_tupleL, ↓f_tupleT, ↓f_listL, ↓f_listT, ↓f_divmod, ↓f_all, ↓f_any, ↓f_sum, ↓a_0, ↓a_1, ↓a_2, ↓t_v, ↓go_nil, ↓go_bind, ↓go_pure, ↓go_lookM, ↓go_lookTM, ↓go_truB, ↓go_noneM, ↓go_moveM, ↓go_ite, ↓go_fin, startE, tyB, isNone, Tgs.len, Exs.len, List.map_cons, List.map_nil, List.length_cons, List.length_nil, List.cons_append, List.nil_append, List.take_length, if_true, Bool.not_false, Bool.not_true, List.set_cons_zero, List.set_cons_succ, Nat.reduceAdd, Nat.reduceSub, List.reduceReplicate, Bool.false_eq_true, if_false, reduceIte, and_self, Bool.true_eq_false, decide_true, decide_false]
    obtain ⟨al, hal⟩ : ∃ al, al = ((lg pl ql).isNone && (lg ql pl).isNone) := ⟨_, rfl⟩
    refine go_next (ρ1 := [some (.r c), x1, some (.d (plD pl)), some (.d (plD ql)), some (.d (plD ml)), x5, x6, some (.d (.bool al))]) ?_ ?_
    · simp (maxSteps := 2000000) (disch := first | omega | assumption | (simp only [List.length_map, List.length_append, List.length_cons, List.length_nil, List.length_take, List.length_drop, List.length_reverse, List.length_replicate]; omega)) only [↓w_nil, ↓w_cons, ↓g_comp, ↓g_comp2, ↓s_for, ↓s_while, ↓g_non, ↓g_bl, ↓g_int, ↓g_str, ↓g_v, ↓g_g, ↓g_get0, ↓g_gets, ↓g_neg, ↓g_bin, ↓g_cmp, ↓g_cmp2, ↓g_and, ↓g_or, ↓g_not, ↓g_ite, ↓g_call, ↓g_callK, ↓g_bi, ↓g_listC, ↓g_rgT, ↓g_rgL, ↓g_isi, ↓g_isiT, ↓g_tup, ↓g_lst, ↓g_ix, ↓g_sl, ↓g_rev, ↓g_app, ↓g_upper, ↓t_and, ↓t_or, ↓t_not, ↓t_ite, ↓t_bl, ↓t_cmp, ↓t_cmp2, ↓t_call, ↓t_callK, ↓t_bi, ↓t_isi, ↓t_isiT, ↓t_ix, ↓l_nil, ↓l_cons, ↓lt_nil, ↓lt_cons, ↓looks_nil, ↓looks_cons, ↓moves_nil, ↓moves_cons, ↓i_seq, ↓i_rng1, ↓i_rng2, ↓i_enum, ↓i_zip, ↓it_list, ↓it_tuple, ↓it_s, ↓gg_n, ↓gg_t, ↓gg_ix, ↓gs_nil, ↓gs_cons, ↓g_tupS, ↓g_lstS, ↓g_lstCS, ↓g_mkL, ↓g_mkC, ↓g_ixT, ↓g_ixL, ↓g_negK, ↓g_asCell, ↓p_nil, ↓p_one, ↓s_pass, ↓s_brk, ↓s_cont, ↓s_never, ↓s_expr, ↓s_ret, ↓s_retN, ↓s_asg, ↓s_par, ↓s_par3, ↓g_rgV, ↓g_rgVK, ↓g_revL, ↓g_revT, ↓s_aug, ↓s_iff, ↓b_add, ↓b_sub, ↓b_mulr, ↓b_mull, ↓b_fdiv, ↓b_mod, ↓b_addLS, ↓b_addTS, ↓q_eqI, ↓q_neI, ↓q_eqB, ↓q_neB, ↓q_lt, ↓q_le, ↓q_gt, ↓q_ge, ↓q_isN, ↓q_isB, ↓q_isnB, ↓isB_b, ↓q_isnN, ↓q_inB, ↓q_notinB, ↓f_lenT, ↓f_lenL, ↓f_int, ↓f_abs, ↓f_max2, ↓f_min2, ↓f_tupleL, ↓f_tupleT, ↓f_listL, ↓f_listT, ↓f_divmod, ↓f_all, ↓f_any, ↓f_sum, ↓a_0, ↓a_1, ↓a_2, ↓t_v, ↓go_nil, ↓go_bind, ↓go_pure, ↓go_lookM, ↓go_lookTM, ↓go_truB, ↓go_noneM, ↓go_moveM, ↓go_ite, ↓go_fin, startE, tyB, isNone, Tgs.len, Exs.len, List.map_cons, List.map_nil, List.length_cons, List.length_nil, List.cons_append, List.nil_append, List.take_length, if_true, Bool.not_false, Bool.not_true, List.set_cons_zero, List.set_cons_succ, Nat.reduceAdd, Nat.reduceSub, List.reduceReplicate, Bool.false_eq_true, if_false, reduceIte, and_self, Bool.true_eq_false, decide_true, decide_false]
      refine s40 (by omega) hp hql ?_
      cases o1 : lg pl ql with
      | none =>
        rw [o1] at hal
        simp (maxSteps := 2000000) (disch := first | omega | assumption | (simp only [List.length_map, List.length_append, List.length_cons, List.length_nil, List.length_take, List.length_drop, List.length_reverse, List.length_replicate]; omega)) only [optD, ↓w_nil, ↓w_cons, ↓g_comp, ↓g_comp2, ↓s_for, ↓s_while, ↓g_non, ↓g_bl, ↓g_int, ↓g_str, ↓g_v, ↓g_g, ↓g_get0, ↓g_gets, ↓g_neg, ↓g_bin, ↓g_cmp, ↓g_cmp2, ↓g_and, ↓g_or, ↓g_not, ↓g_ite, ↓g_call, ↓g_callK, ↓g_bi, ↓g_listC, ↓g_rgT, ↓g_rgL, ↓g_isi, ↓g_isiT, ↓g_tup, ↓g_lst, ↓g_ix, ↓g_sl, ↓g_rev, ↓g_app, ↓g_upper, ↓t_and, ↓t_or, ↓t_not, ↓t_ite, ↓t_bl, ↓t_cmp, ↓t_cmp2, ↓t_call, ↓t_callK, ↓t_bi, ↓t_isi, ↓t_isiT, ↓t_ix, ↓l_nil, ↓l_cons, ↓lt_nil, ↓lt_cons, ↓looks_nil, ↓looks_cons, ↓moves_nil, ↓moves_cons, ↓i_seq, ↓i_rng1, ↓i_rng2, ↓i_enum, ↓i_zip, ↓it_list, ↓it_tuple, ↓it_s, ↓gg_n, ↓gg_t, ↓gg_ix, ↓gs_nil, ↓gs_cons, ↓g_tupS, ↓g_lstS, ↓g_lstCS, ↓g_mkL, ↓g_mkC, ↓g_ixT, ↓g_ixL, ↓g_negK, ↓g_asCell, ↓p_nil, ↓p_one, ↓s_pass, ↓s_brk, ↓s_cont, ↓s_never, ↓s_expr, ↓s_ret, ↓s_retN, ↓s_asg, ↓s_par, ↓s_par3, ↓g_rgV, ↓g_rgVK, ↓g_revL, ↓g_revT, ↓s_aug, ↓s_iff, ↓b_add, ↓b_sub, ↓b_mulr, ↓b_mull, ↓b_fdiv, ↓b_mod, ↓b_addLS, ↓b_addTS, ↓q_eqI, ↓q_neI, ↓q_eqB, ↓q_neB, ↓q_lt, ↓q_le, ↓q_gt, ↓q_ge, ↓q_isN, ↓q_isB, ↓q_isnB, ↓isB_b, ↓q_isnN, ↓q_inB, ↓q_notinB, ↓f_lenT, ↓f_lenL, ↓f_int, ↓f_abs, ↓f_max2, ↓f_min2, ↓f_tupleL, ↓f_tupleT, ↓f_listL, ↓f_listT, ↓f_divmod, ↓f_all, ↓f_any, ↓f_sum, ↓a_0, ↓a_1, ↓a_2, ↓t_v, ↓go_nil, ↓go_bind, ↓go_pure, ↓go_lookM, ↓go_lookTM, ↓go_truB, ↓go_noneM, ↓go_moveM, ↓go_ite, ↓go_fin, startE, tyB, isNone, Tgs.len, Exs.len, List.map_cons, List.map_nil, List.length_cons, List.length_nil, List.cons_append, List.nil_append, List.take_length, if_true, Bool.not_false, Bool.not_true, List.set_cons_zero, List.set_cons_succ, Nat.reduceAdd, Nat.reduceSub, List.reduceReplicate, Bool.false_eq_true, if_false, reduceIte, and_self, Bool.true_eq_false, decide_true, decide_false]
        refine s40 (by omega) hql hp ?_
        cases o2 : lg ql pl with
        | none => rw [o2] at hal; subst hal; simp (maxSteps := 2000000) (disch := first | omega | assumption | (simp only [List.length_map, List.length_append, List.length_cons, List.length_nil, List.length_take, List.length_drop, List.length_reverse, List.length_replicate]; omega)) only [optD, ↓w_nil, ↓w_cons, ↓g_comp, ↓g_comp2, ↓s_for, ↓s_while, ↓g_non, ↓g_bl, ↓g_int, ↓g_str, ↓g_v, ↓g_g, ↓g_get0, ↓g_gets, ↓g_neg, ↓g_bin, ↓g_cmp, ↓g_cmp2, ↓g_and, ↓g_or, ↓g_not, ↓g_ite, ↓g_call, ↓g_callK, ↓g_bi, ↓g_listC, ↓g_rgT, ↓g_rgL, ↓g_isi, ↓g_isiT, ↓g_tup, ↓g_lst, ↓g_ix, ↓g_sl, ↓g_rev, ↓g_app, ↓g_upper, ↓t_and, ↓t_or, ↓t_not, ↓t_ite, ↓t_bl, ↓t_cmp, ↓t_cmp2, ↓t_call, ↓t_callK, ↓t_bi, ↓t_isi, ↓t_isiT, ↓t_ix, ↓l_nil, ↓l_cons, ↓lt_nil, ↓lt_cons, ↓looks_nil, ↓looks_cons, ↓moves_nil, ↓moves_cons, ↓i_seq, ↓i_rng1, ↓i_rng2, ↓i_enum, ↓i_zip, ↓it_list, ↓it_tuple, ↓it_s, ↓gg_n, ↓gg_t, ↓gg_ix, ↓gs_nil, ↓gs_cons, ↓g_tupS, ↓g_lstS, ↓g_lstCS, ↓g_mkL, ↓g_mkC, ↓g_ixT, ↓g_ixL, ↓g_negK, ↓g_asCell, ↓p_nil, ↓p_one, ↓s_pass, ↓s_brk, ↓s_cont, ↓s_never, ↓s_expr, ↓s_ret, ↓s_retN, ↓s_asg, ↓s_par, ↓s_par3, ↓g_rgV, ↓g_rgVK, ↓g_revL, ↓g_revT, ↓s_aug, ↓s_iff, ↓b_add, ↓b_sub, ↓b_mulr, ↓b_mull, ↓b_fdiv, ↓b_mod, ↓b_addLS, ↓b_addTS, ↓q_eqI, ↓q_neI, ↓q_eqB, ↓q_neB, ↓q_lt, ↓q_le, ↓q_gt, ↓q_ge, ↓q_isN, ↓q_isB, ↓q_isnB, ↓isB_b, ↓q_isnN, ↓q_inB, ↓q_notinB, ↓f_lenT, ↓f_lenL, ↓f_int, ↓f_abs, ↓f_max2, ↓f_min2, ↓f_tupleL, ↓f_tupleT, ↓f_listL, ↓f_listT, ↓f_divmod, ↓f_all, ↓f_any, ↓f_sum, ↓a_0, ↓a_1, ↓a_2, ↓t_v, ↓go_nil, ↓go_bind, ↓go_pure, ↓go_lookM, ↓go_lookTM, ↓go_truB, ↓go_noneM, ↓go_moveM, ↓go_ite, ↓go_fin, startE, tyB, isNone, Tgs.len, Exs.len, List.map_cons, List.map_nil, List.length_cons, List.length_nil, List.cons_append, List.nil_append, List.take_length, if_true, Bool.not_false, Bool.not_true, List.set_cons_zero, List.set_cons_succ, Nat.reduceAdd, Nat.reduceSub, List.reduceReplicate, Bool.false_eq_true, if_false, reduceIte, and_self, Bool.true_eq_false, decide_true, decide_false]; exact ⟨by first | rfl | trivial, by first | rfl | trivial⟩
        | some w => rw [o2] at hal; subst hal; simp (maxSteps := 2000000) (disch := first | omega | assumption | (simp only [List.length_map, List.length_append, List.length_cons, List.length_nil, List.length_take, List.length_drop, List.length_reverse, List.length_replicate]; omega)) only [optD, pD, ↓w_nil, ↓w_cons, ↓g_comp, ↓g_comp2, ↓s_for, ↓s_while, ↓g_non, ↓g_bl, ↓g_int, ↓g_str, ↓g_v, ↓g_g, ↓g_get0, ↓g_gets, ↓g_neg, ↓g_bin, ↓g_cmp, ↓g_cmp2, ↓g_and, ↓g_or, ↓g_not, ↓g_ite, ↓g_call, ↓g_callK, ↓g_bi, ↓g_listC, ↓g_rgT, ↓g_rgL, ↓g_isi, ↓g_isiT, ↓g_tup, ↓g_lst, ↓g_ix, ↓g_sl, ↓g_rev, ↓g_app, ↓g_upper, ↓t_and, ↓t_or, ↓t_not, ↓t_ite, ↓t_bl, ↓t_cmp, ↓t_cmp2, ↓t_call, ↓t_callK, ↓t_bi, ↓t_isi, ↓t_isiT, ↓t_ix, ↓l_nil, ↓l_cons, ↓lt_nil, ↓lt_cons, ↓looks_nil, ↓looks_cons, ↓moves_nil, ↓moves_cons, ↓i_seq, ↓i_rng1, ↓i_rng2, ↓i_enum, ↓i_zip, ↓it_list, ↓it_tuple, ↓it_s, ↓gg_n, ↓gg_t, ↓gg_ix, ↓gs_nil, ↓gs_cons, ↓g_tupS, ↓g_lstS, ↓g_lstCS, ↓g_mkL, ↓g_mkC, ↓g_ixT, ↓g_ixL, ↓g_negK, ↓g_asCell, ↓p_nil, ↓p_one, ↓s_pass, ↓s_brk, ↓s_cont, ↓s_never, ↓s_expr, ↓s_ret, ↓s_retN, ↓s_asg, ↓s_par, ↓s_par3, ↓g_rgV, ↓g_rgVK, ↓g_revL, ↓g_revT, ↓s_aug, ↓s_iff, ↓b_add, ↓b_sub, ↓b_mulr, ↓b_mull, ↓b_fdiv, ↓b_mod, ↓b_addLS, ↓b_addTS, ↓q_eqI, ↓q_neI, ↓q_eqB, ↓q_neB, ↓q_lt, ↓q_le, ↓q_gt, ↓q_ge, ↓q_isN, ↓q_isB, ↓q_isnB, ↓isB_b, ↓q_isnN, ↓q_inB, ↓q_notinB, ↓f_lenT, ↓f_lenL, ↓f_int, ↓f_abs, ↓f_max2, ↓f_min2, ↓f_tupleL, ↓f_tupleT, ↓f_listL, ↓f_listT, ↓f_divmod, ↓f_all, ↓f_any, ↓f_sum, ↓a_0, ↓a_1, ↓a_2, ↓t_v, ↓go_nil, ↓go_bind, ↓go_pure, ↓go_lookM, ↓go_lookTM, ↓go_truB, ↓go_noneM, ↓go_moveM, ↓go_ite, ↓go_fin, startE, tyB, isNone, Tgs.len, Exs.len, List.map_cons, List.map_nil, List.length_cons, List.length_nil, List.cons_append, List.nil_append, List.take_length, if_true, Bool.not_false, Bool.not_true, List.set_cons_zero, List.set_cons_succ, Nat.reduceAdd, Nat.reduceSub, List.reduceReplicate, Bool.false_eq_true, if_false, reduceIte, and_self, Bool.true_eq_false, decide_true, decide_false]; exact ⟨by first | rfl | trivial, by first | rfl | trivial⟩
      | some w =>
        rw [o1] at hal
        subst hal
        simp (maxSteps := 2000000) (disch := first | omega | assumption | (simp only [List.length_map, List.length_append, List.length_cons, List.length_nil, List.length_take, List.length_drop, List.length_reverse, List.length_replicate]; omega)) only [optD, pD, ↓w_nil, ↓w_cons, ↓g_comp, ↓g_comp2, ↓s_for, ↓s_while, ↓g_non, ↓g_bl, ↓g_int, ↓g_str, ↓g_v, ↓g_g, ↓g_get0, ↓g_gets, ↓g_neg, ↓g_bin, ↓g_cmp, ↓g_cmp2, ↓g_and, ↓g_or, ↓g_not, ↓g_ite, ↓g_call, ↓g_callK, ↓g_bi, ↓g_listC, ↓g_rgT, ↓g_rgL, ↓g_isi, ↓g_isiT, ↓g_tup, ↓g_lst, ↓g_ix, ↓g_sl, ↓g_rev, ↓g_app, ↓g_upper, ↓t_and, ↓t_or, ↓t_not, ↓t_ite, ↓t_bl, ↓t_cmp, ↓t_cmp2, ↓t_call, ↓t_callK, ↓t_bi, ↓t_isi, ↓t_isiT, ↓t_ix, ↓l_nil, ↓l_cons, ↓lt_nil, ↓lt_cons, ↓looks_nil, ↓looks_cons, ↓moves_nil, ↓moves_cons, ↓i_seq, ↓i_rng1, ↓i_rng2, ↓i_enum, ↓i_zip, ↓it_list, ↓it_tuple, ↓it_s, ↓gg_n, ↓gg_t, ↓gg_ix, ↓gs_nil, ↓gs_cons, ↓g_tupS, ↓g_lstS, ↓g_lstCS, ↓g_mkL, ↓g_mkC, ↓g_ixT, ↓g_ixL, ↓g_negK, ↓g_asCell, ↓p_nil, ↓p_one, ↓s_pass, ↓s_brk, ↓s_cont, ↓s_never, ↓s_expr, ↓s_ret, ↓s_retN, ↓s_asg, ↓s_par, ↓s_par3, ↓g_rgV, ↓g_rgVK, ↓g_revL, ↓g_revT, ↓s_aug, ↓s_iff, ↓b_add, ↓b_sub, ↓b_mulr, ↓b_mull, ↓b_fdiv, ↓b_mod, ↓b_addLS, ↓b_addTS, ↓q_eqI, ↓q_neI, ↓q_eqB, ↓q_neB, ↓q_lt, ↓q_le, ↓q_gt, ↓q_ge, ↓q_isN, ↓q_isB, ↓q_isnB, ↓isB_b, ↓q_isnN, ↓q_inB, ↓q_notinB, ↓f_lenT, ↓f_lenL, ↓f_int, ↓f_abs, ↓f_max2, ↓f_min2, ↓f_tupleL, ↓f_tupleT, ↓f_listL, ↓f_listT, ↓f_divmod, ↓f_all, ↓f_any, ↓f_sum, ↓a_0, ↓a_1, ↓a_2, ↓t_v, ↓go_nil, ↓go_bind, ↓go_pure, ↓go_lookM, ↓go_lookTM, ↓go_truB, ↓go_noneM, ↓go_moveM, ↓go_ite, ↓go_fin, startE, tyB, isNone, Tgs.len, Exs.len, List.map_cons, List.map_nil, List.length_cons, List.length_nil, List.cons_append, List.nil_append, List.take_length, if_true, Bool.not_false, Bool.not_true, List.set_cons_zero, List.set_cons_succ, Nat.reduceAdd, Nat.reduceSub, List.reduceReplicate, Bool.false_eq_true, if_false, reduceIte, and_self, Bool.true_eq_false, decide_true, decide_false]
        exact ⟨by first | rfl | trivial, by first | rfl | trivial⟩
    refine go_cons.mpr ?_
    simp (maxSteps := 2000000) (disch := first | omega | assumption | (simp only [List.length_map, List.length_append, List.length_cons, List.length_nil, List.length_take, List.length_drop, List.length_reverse, List.length_replicate]; omega)) only [↓w_nil, ↓w_cons, ↓g_comp, ↓g_comp2, ↓s_for, ↓s_while, ↓g_non, ↓g_bl, ↓g_int, ↓g_str, ↓g_v, ↓g_g, ↓g_get0, ↓g_gets, ↓g_neg, ↓g_bin, ↓g_cmp, ↓g_cmp2, ↓g_and, ↓g_or, ↓g_not, ↓g_ite, ↓g_call, ↓g_callK, ↓g_bi, ↓g_listC, ↓g_rgT, ↓g_rgL, ↓g_isi, ↓g_isiT, ↓g_tup, ↓g_lst, ↓g_ix, ↓g_sl, ↓g_rev, ↓g_app, ↓g_upper, ↓t_and, ↓t_or, ↓t_not, ↓t_ite, ↓t_bl, ↓t_cmp, ↓t_cmp2, ↓t_call, ↓t_callK, ↓t_bi, ↓t_isi, ↓t_isiT, ↓t_ix, ↓l_nil, ↓l_cons, ↓lt_nil, ↓lt_cons, ↓looks_nil, ↓looks_cons, ↓moves_nil, ↓moves_cons, ↓i_seq, ↓i_rng1, ↓i_rng2, ↓i_enum, ↓i_zip, ↓it_list, ↓it_tuple, ↓it_s, ↓gg_n, ↓gg_t, ↓gg_ix, ↓gs_nil, ↓gs_cons, ↓g_tupS, ↓g_lstS, ↓g_lstCS, ↓g_mkL, ↓g_mkC, ↓g_ixT, ↓g_ixL, ↓g_negK, ↓g_asCell, ↓p_nil, ↓p_one, ↓s_pass, ↓s_brk, ↓s_cont, ↓s_never, ↓s_expr, ↓s_ret, ↓s_retN, ↓s_asg, ↓s_par, ↓s_par3, ↓g_rgV, ↓g_rgVK, ↓g_revL, ↓g_revT, ↓s_aug, ↓s_iff, ↓b_add, ↓b_sub, ↓b_mulr, ↓b_mull, ↓b_fdiv, ↓b_mod, ↓b_addLS, ↓b_addTS, ↓q_eqI, ↓q_neI, ↓q_eqB, ↓q_neB, ↓q_lt, ↓q_le, ↓q_gt, ↓q_ge, ↓q_isN, ↓q_isB, ↓q_isnB, ↓isB_b, ↓q_isnN, ↓q_inB, ↓q_notinB, ↓f_lenT, ↓f_lenL, ↓f_int, ↓f_abs, ↓f_max2, ↓f_min2, ↓f_tupleL, ↓f_tupleT, ↓f_listL, ↓f_listT, ↓f_divmod, ↓f_all, ↓f_any, ↓f_sum, ↓a_0, ↓a_1, ↓a_2, ↓t_v, ↓go_nil, ↓go_bind, ↓go_pure, ↓go_lookM, ↓go_lookTM, ↓go_truB, ↓go_noneM, ↓go_moveM, ↓go_ite, ↓go_fin, startE, tyB, isNone, Tgs.len, Exs.len, List.map_cons, List.map_nil, List.length_cons, List.length_nil, List.cons_append, List.nil_append, List.take_length, if_true, Bool.not_false, Bool.not_true, List.set_cons_zero, List.set_cons_succ, Nat.reduceAdd, Nat.reduceSub, List.reduceReplicate, Bool.false_eq_true, if_false, reduceIte, and_self, Bool.true_eq_false, decide_true, decide_false]
    refine s29 (by omega) hp hql ?_
    rw [← hal]
    simp (maxSteps := 2000000) (disch := first | omega | assumption | (simp only [List.length_map, List.length_append, List.length_cons, List.length_nil, List.length_take, List.length_drop, List.length_reverse, List.length_replicate]; omega)) only [ex_of kargs2, ↓w_nil, ↓w_cons, ↓g_comp, ↓g_comp2, ↓s_for, ↓s_while, ↓g_non, ↓g_bl, ↓g_int, ↓g_str, ↓g_v, ↓g_g, ↓g_get0, ↓g_gets, ↓g_neg, ↓g_bin, ↓g_cmp, ↓g_cmp2, ↓g_and, ↓g_or, ↓g_not, ↓g_ite, ↓g_call, ↓g_callK, ↓g_bi, ↓g_listC, ↓g_rgT, ↓g_rgL, ↓g_isi, ↓g_isiT, ↓g_tup, ↓g_lst, ↓g_ix, ↓g_sl, ↓g_rev, ↓g_app, ↓g_upper, ↓t_and, ↓t_or, ↓t_not, ↓t_ite, ↓t_bl, ↓t_cmp, ↓t_cmp2, ↓t_call, ↓t_callK, ↓t_bi, ↓t_isi, ↓t_isiT, ↓t_ix, ↓l_nil, ↓l_cons, ↓lt_nil, ↓lt_cons, ↓looks_nil, ↓looks_cons, ↓moves_nil, ↓moves_cons, ↓i_seq, ↓i_rng1, ↓i_rng2, ↓i_enum, ↓i_zip, ↓it_list, ↓it_tuple, ↓it_s, ↓gg_n, ↓gg_t, ↓gg_ix, ↓gs_nil, ↓gs_cons, ↓g_tupS, ↓g_lstS, ↓g_lstCS, ↓g_mkL, ↓g_mkC, ↓g_ixT, ↓g_ixL, ↓g_negK, ↓g_asCell, ↓p_nil, ↓p_one, ↓s_pass, ↓s_brk, ↓s_cont, ↓s_never, ↓s_expr, ↓s_ret, ↓s_retN, ↓s_asg, ↓s_par, ↓s_par3, ↓g_rgV, ↓g_rgVK, ↓g_revL, ↓g_revT, ↓s_aug, ↓s_iff, ↓b_add, ↓b_sub, ↓b_mulr, ↓b_mull, ↓b_fdiv, ↓b_mod, ↓b_addLS, ↓b_addTS, ↓q_eqI, ↓q_neI, ↓q_eqB, ↓q_neB, ↓q_lt, ↓q_le, ↓q_gt, ↓q_ge, ↓q_isN, ↓q_isB, ↓q_isnB, ↓isB_b, ↓q_isnN, ↓q_inB, ↓q_notinB, ↓f_lenT, ↓f_lenL, ↓f_int, ↓f_abs, ↓f_max2, ↓f_min2, ↓f_tupleL, ↓f_tupleT, ↓f_listL, ↓f_listT, ↓f_divmod, ↓f_all, ↓f_any, ↓f_sum, ↓a_0, ↓a_1, ↓a_2, ↓t_v, ↓go_nil, ↓go_bind, ↓go_pure, ↓go_lookM, ↓go_lookTM, ↓go_truB, ↓go_noneM, ↓go_moveM, ↓go_ite, ↓go_fin, startE, tyB, isNone, Tgs.len, Exs.len, List.map_cons, List.map_nil, List.length_cons, List.length_nil, List.cons_append, List.nil_append, List.take_length, if_true, Bool.not_false, Bool.not_true, List.set_cons_zero, List.set_cons_succ, Nat.reduceAdd, Nat.reduceSub, List.reduceReplicate, Bool.false_eq_true, if_false, reduceIte, and_self, Bool.true_eq_false, decide_true, decide_false]
    refine s29 (by omega) hql hp ?_
    rw [show ((lg ql pl).isNone && (lg pl ql).isNone) = al by rw [hal, Bool.and_comm]]
    have ok : okS 2 (.tuple [.bool al, .bool al]) = true := rfl
    simp (maxSteps := 2000000) (disch := first | omega | assumption | (simp only [List.length_map, List.length_append, List.length_cons, List.length_nil, List.length_take, List.length_drop, List.length_reverse, List.length_replicate]; omega)) only [s35d 2 m _ (show 2 ≤ m by omega) ok, ↓w_nil, ↓w_cons, ↓g_comp, ↓g_comp2, ↓s_for, ↓s_while, ↓g_non, ↓g_bl, ↓g_int, ↓g_str, ↓g_v, ↓g_g, ↓g_get0, ↓g_gets, ↓g_neg, ↓g_bin, ↓g_cmp, ↓g_cmp2, ↓g_and, ↓g_or, ↓g_not, ↓g_ite, ↓g_call, ↓g_callK, ↓g_bi, ↓g_listC, ↓g_rgT, ↓g_rgL, ↓g_isi, ↓g_isiT, ↓g_tup, ↓g_lst, ↓g_ix, ↓g_sl, ↓g_rev, ↓g_app, ↓g_upper, ↓t_and, ↓t_or, ↓t_not, ↓t_ite, ↓t_bl, ↓t_cmp, ↓t_cmp2, ↓t_call, ↓t_callK, ↓t_bi, ↓t_isi, ↓t_isiT, ↓t_ix, ↓l_nil, ↓l_cons, ↓lt_nil, ↓lt_cons, ↓looks_nil, ↓looks_cons, ↓moves_nil, ↓moves_cons, ↓i_seq, ↓i_rng1, ↓i_rng2, ↓i_enum, ↓i_zip, ↓it_list, ↓it_tuple, ↓it_s, ↓gg_n, ↓gg_t, ↓gg_ix, ↓gs_nil, ↓gs_cons, ↓g_tupS, ↓g_lstS, ↓g_lstCS, ↓g_mkL, ↓g_mkC, ↓g_ixT, ↓g_ixL, ↓g_negK, ↓g_asCell, ↓p_nil, ↓p_one, ↓s_pass, ↓s_brk, ↓s_cont, ↓s_never, ↓s_expr, ↓s_ret, ↓s_retN, ↓s_asg, ↓s_par, ↓s_par3, ↓g_rgV, ↓g_rgVK, ↓g_revL, ↓g_revT, ↓s_aug, ↓s_iff, ↓b_add, ↓b_sub, ↓b_mulr, ↓b_mull, ↓b_fdiv, ↓b_mod, ↓b_addLS, ↓b_addTS, ↓q_eqI, ↓q_neI, ↓q_eqB, ↓q_neB, ↓q_lt, ↓q_le, ↓q_gt, ↓q_ge, ↓q_isN, ↓q_isB, ↓q_isnB, ↓isB_b, ↓q_isnN, ↓q_inB, ↓q_notinB, ↓f_lenT, ↓f_lenL, ↓f_int, ↓f_abs, ↓f_max2, ↓f_min2, ↓f_tupleL, ↓f_tupleT, ↓f_listL, ↓f_listT, ↓f_divmod, ↓f_all, ↓f_any, ↓f_sum, ↓a_0, ↓a_1, ↓a_2, ↓t_v, ↓go_cons, ↓go_nil, ↓go_bind, ↓go_pure, ↓go_lookM, ↓go_lookTM, ↓go_truB, ↓go_noneM, ↓go_moveM, ↓go_ite, ↓go_fin, startE, tyB, isNone, Tgs.len, Exs.len, List.map_cons, List.map_nil, List.length_cons, List.length_nil, List.cons_append, List.nil_append, List.take_length, if_true, Bool.not_false, Bool.not_true, List.set_cons_zero, List.set_cons_succ, Nat.reduceAdd, Nat.reduceSub, List.reduceReplicate, Bool.false_eq_true, if_false, reduceIte, and_self, Bool.true_eq_false, decide_true, decide_false]
    exact ⟨_, _, _, _, _, _, _, _, _, _, rfl, rfl⟩
  · rintro ρ s ⟨x1, x2, x3, x4, x5, x6, x7, x, y, z, rfl, rfl⟩
    simp (maxSteps := 2000000) (disch := first | omega | assumption | (simp only [List.length_map, List.length_append, List.length_cons, List.length_nil, List.length_take, List.length_drop, List.length_reverse, List.length_replicate]; omega)) only [U_take, ↓w_nil, ↓w_cons, ↓g_comp, ↓g_comp2, ↓s_for, ↓s_while, ↓g_non, ↓g_bl, ↓g_int, ↓g_str, ↓g_v, ↓g_g, ↓g_get0, ↓g_gets, ↓g_neg, ↓g_bin, ↓g_cmp, ↓g_cmp2, ↓g_and, ↓g_or, ↓g_not, ↓g_ite, ↓g_call, ↓g_callK, ↓g_bi, ↓g_listC, ↓g_rgT, ↓g_rgL, ↓g_isi, ↓g_isiT, ↓g_tup, ↓g_lst, ↓g_ix, ↓g_sl, ↓g_rev, ↓g_app, ↓g_upper, ↓t_and, ↓t_or, ↓t_not, ↓t_ite, ↓t_bl, ↓t_cmp, ↓t_cmp2, ↓t_call, ↓t_callK, ↓t_bi, ↓t_isi, ↓t_isiT, ↓t_ix, ↓l_nil, ↓l_cons, ↓lt_nil, ↓lt_cons, ↓looks_nil, ↓looks_cons, ↓moves_nil, ↓moves_cons, ↓i_seq, ↓i_rng1, ↓i_rng2, ↓i_enum, ↓i_zip, ↓it_list, ↓it_tuple, ↓it_s, ↓gg_n, ↓gg_t, ↓gg_ix, ↓gs_nil, ↓gs_cons, ↓g_tupS, ↓g_lstS, ↓g_lstCS, ↓g_mkL, ↓g_mkC, ↓g_ixT, ↓g_ixL, ↓g_negK, ↓g_asCell, ↓p_nil, ↓p_one, ↓s_pass, ↓s_brk, ↓s_cont, ↓s_never, ↓s_expr, ↓s_ret, ↓s_retN, ↓s_asg, ↓s_par, ↓s_par3, ↓g_rgV, ↓g_rgVK, ↓g_revL, ↓g_revT, ↓s_aug, ↓s_iff, ↓b_add, ↓b_sub, ↓b_mulr, ↓b_mull, ↓b_fdiv, ↓b_mod, ↓b_addLS, ↓b_addTS, ↓q_eqI, ↓q_neI, ↓q_eqB, ↓q_neB, ↓q_lt, ↓q_le, ↓q_gt, ↓q_ge, ↓q_isN, ↓q_isB, ↓q_isnB, ↓isB_b, ↓q_isnN, ↓q_inB, ↓q_notinB, ↓f_lenT, ↓f_lenL, ↓f_int, ↓f_abs, ↓f_max2, ↓f_min2, ↓f_tupleL, ↓f_tupleT, ↓f_listL, ↓f_listT, ↓f_divmod, ↓f_all, ↓f_any, ↓f_sum, ↓a_0, ↓a_1, ↓a_2, ↓t_v, ↓go_cons, ↓go_nil, ↓go_bind, ↓go_pure, ↓go_lookM, ↓go_lookTM, ↓go_truB, ↓go_noneM, ↓go_moveM, ↓go_ite, ↓go_fin, startE, tyB, isNone, Tgs.len, Exs.len, List.map_cons, List.map_nil, List.length_cons, List.length_nil, List.cons_append, List.nil_append, List.take_length, if_true, Bool.not_false, Bool.not_true, List.set_cons_zero, List.set_cons_succ, Nat.reduceAdd, Nat.reduceSub, List.reduceReplicate, Bool.false_eq_true, if_false, reduceIte, and_self, Bool.true_eq_false, decide_true, decide_false]
    exact hq _ _ _
end
end RL

set_option Elab.async false
set_option linter.all false
set_option maxRecDepth 100000
set_option maxHeartbeats 4000000
namespace RL
open PySem PySem.Spec PyProof.Rows L2
theorem s46 {n : Nat} {st : Sto} {ns : List Int} (hn : 13 ≤ n) (hns : ns.length ≤ 63) : Go (callN pr n 46 [.s ns]) st fun v _ => v = .d (.bool true) := by
  obtain ⟨m, rfl⟩ : ∃ m, n = m + 1 := ⟨n - 1, by omega⟩
  rw [go_call (fi := f46) rfl rfl]
  simp (maxSteps := 2000000) (disch := first | omega | assumption | (simp only [List.length_map, List.length_append, List.length_cons, List.length_nil, List.length_take, List.length_drop, List.length_reverse, List.length_replicate]; omega)) only [f46, rng1_ok (j := 2) (by decide), ↓w_nil, ↓w_cons, ↓g_comp, ↓g_comp2, ↓s_for, ↓s_while, ↓g_non, ↓g_bl, ↓g_int, ↓g_str, ↓g_v, ↓g_g, ↓g_get0, ↓g_gets, ↓g_neg, ↓g_bin, ↓g_cmp, ↓g_cmp2, ↓g_and, ↓g_or, ↓g_not, ↓g_ite, ↓g_call, ↓g_callK, ↓g_bi, ↓g_listC, ↓g_rgT, ↓g_rgL, ↓g_isi, ↓g_isiT, ↓g_tup, ↓g_lst, ↓g_ix, ↓g_sl, ↓g_rev, ↓g_app, ↓g_upper, ↓t_and, ↓t_or, ↓t_not, ↓t_ite, ↓t_bl, ↓t_cmp, ↓t_cmp2, ↓t_call, ↓t_callK, ↓t_bi, ↓t_isi, ↓t_isiT, ↓t_ix, ↓l_nil, ↓l_cons, ↓lt_nil, ↓lt_cons, ↓looks_nil, ↓looks_cons, ↓moves_nil, ↓moves_cons, ↓i_seq, ↓i_rng1, ↓i_rng2, ↓i_enum, ↓i_zip, ↓it_list, ↓it_tuple, ↓it_s, ↓gg_n, ↓gg_t, ↓gg_ix, ↓gs_nil, ↓gs_cons, ↓g_tupS, ↓g_lstS, ↓g_lstCS, ↓g_mkL, ↓g_mkC, ↓g_ixT, ↓g_ixL, ↓g_negK, ↓g_asCell, ↓p_nil, ↓p_one, ↓s_pass, ↓s_brk, ↓s_cont, ↓s_never, ↓s_expr, ↓s_ret, ↓s_retN, ↓s_asg, ↓s_par, ↓s_par3, ↓g_rgV, ↓g_rgVK, ↓g_revL, ↓g_revT, ↓s_aug, ↓s_iff, ↓b_add, ↓b_sub, ↓b_mulr, ↓b_mull, ↓b_fdiv, ↓b_mod, ↓b_addLS, ↓b_addTS, ↓q_eqI, ↓q_neI, ↓q_eqB, ↓q_neB, ↓q_lt, ↓q_le, ↓q_gt, ↓q_ge, ↓q_isN, ↓q_isB, ↓q_isnB, ↓isB_b, ↓q_isnN, ↓q_inB, ↓q_notinB, ↓f_lenT, ↓f_lenL, ↓f_int, ↓f_abs, ↓f_max2, ↓f_min2, ↓f_tupleL, ↓f_tupleT, ↓f_listL, ↓f_listT, ↓f_divmod, ↓f_all, ↓f_any, ↓f_sum, ↓a_0, ↓a_1, ↓a_2, ↓t_v, ↓go_cons, ↓go_nil, ↓go_bind, ↓go_pure, ↓go_lookM, ↓go_lookTM, ↓go_truB, ↓go_noneM, ↓go_moveM, ↓go_ite, ↓go_fin, startE, tyB, isNone, Tgs.len, Exs.len, List.map_cons, List.map_nil, List.length_cons, List.length_nil, List.cons_append, List.nil_append, List.take_length, if_true, Bool.not_false, Bool.not_true, List.set_cons_zero, List.set_cons_succ, Nat.reduceAdd, Nat.reduceSub, List.reduceReplicate, Bool.false_eq_true, if_false, reduceIte, and_self, Bool.true_eq_false, decide_true, decide_false]
  refine go_compL (fun xs acc s => (∀ x ∈ xs, ∃ i, x = .int i ∧ 0 ≤ i) ∧ ∃ bs : List Bool, acc = bs.map .bool ∧ bs.all id = true) ?_ _ [] _ ⟨fun x hx => ?_, [], rfl, rfl⟩ ?_
  · rintro x r acc s ⟨hx, bs, rfl, hb⟩
    obtain ⟨i, rfl, i0⟩ := hx x List.mem_cons_self
    simp (maxSteps := 2000000) (disch := first | omega | assumption | (simp only [List.length_map, List.length_append, List.length_cons, List.length_nil, List.length_take, List.length_drop, List.length_reverse, List.length_replicate]; omega)) only [↓g_compF, wipeE, ↓w_nil, ↓w_cons, ↓g_comp, ↓g_comp2, ↓s_for, ↓s_while, ↓g_non, ↓g_bl, ↓g_int, ↓g_str, ↓g_v, ↓g_g, ↓g_get0, ↓g_gets, ↓g_neg, ↓g_bin, ↓g_cmp, ↓g_cmp2, ↓g_and, ↓g_or, ↓g_not, ↓g_ite, ↓g_call, ↓g_callK, ↓g_bi, ↓g_listC, ↓g_rgT, ↓g_rgL, ↓g_isi, ↓g_isiT, ↓g_tup, ↓g_lst, ↓g_ix, ↓g_sl, ↓g_rev, ↓g_app, ↓g_upper, ↓t_and, ↓t_or, ↓t_not, ↓t_ite, ↓t_bl, ↓t_cmp, ↓t_cmp2, ↓t_call, ↓t_callK, ↓t_bi, ↓t_isi, ↓t_isiT, ↓t_ix, ↓l_nil, ↓l_cons, ↓lt_nil, ↓lt_cons, ↓looks_nil, ↓looks_cons, ↓moves_nil, ↓moves_cons, ↓i_seq, ↓i_rng1, ↓i_rng2, ↓i_enum, ↓i_zip, ↓it_list, ↓it_tuple, ↓it_s, ↓gg_n, ↓gg_t, ↓gg_ix, ↓gs_nil, ↓gs_cons, ↓g_tupS, ↓g_lstS, ↓g_lstCS, ↓g_mkL, ↓g_mkC, ↓g_ixT, ↓g_ixL, ↓g_negK, ↓g_asCell, ↓p_nil, ↓p_one, ↓s_pass, ↓s_brk, ↓s_cont, ↓s_never, ↓s_expr, ↓s_ret, ↓s_retN, ↓s_asg, ↓s_par, ↓s_par3, ↓g_rgV, ↓g_rgVK, ↓g_revL, ↓g_revT, ↓s_aug, ↓s_iff, ↓b_add, ↓b_sub, ↓b_mulr, ↓b_mull, ↓b_fdiv, ↓b_mod, ↓b_addLS, ↓b_addTS, ↓q_eqI, ↓q_neI, ↓q_eqB, ↓q_neB, ↓q_lt, ↓q_le, ↓q_gt, ↓q_ge, ↓q_isN, ↓q_isB, ↓q_isnB, ↓isB_b, ↓q_isnN, ↓q_inB, ↓q_notinB, ↓f_lenT, ↓f_lenL, ↓f_int, ↓f_abs, ↓f_max2, ↓f_min2, ↓f_tupleL, ↓f_tupleT, ↓f_listL, ↓f_listT, ↓f_divmod, ↓f_all, ↓f_any, ↓f_sum, ↓a_0, ↓a_1, ↓a_2, ↓t_v, ↓go_cons, ↓go_nil, ↓go_bind, ↓go_pure, ↓go_lookM, ↓go_lookTM, ↓go_truB, ↓go_noneM, ↓go_moveM, ↓go_ite, ↓go_fin, startE, tyB, isNone, Tgs.len, Exs.len, List.map_cons, List.map_nil, List.length_cons, List.length_nil, List.cons_append, List.nil_append, List.take_length, if_true, Bool.not_false, Bool.not_true, List.set_cons_zero, List.set_cons_succ, Nat.reduceAdd, Nat.reduceSub, List.reduceReplicate, Bool.false_eq_true, if_false, reduceIte, and_self, Bool.true_eq_false, decide_true, decide_false]
    refine s30 (by omega) hns i0 fun x y z => ?_
    try simp (maxSteps := 2000000) (disch := first | omega | assumption | (simp only [List.length_map, List.length_append, List.length_cons, List.length_nil, List.length_take, List.length_drop, List.length_reverse, List.length_replicate]; omega)) only [↓w_nil, ↓w_cons, ↓g_comp, ↓g_comp2, ↓s_for, ↓s_while, ↓g_non, ↓g_bl, ↓g_int, ↓g_str, ↓g_v, ↓g_g, ↓g_get0, ↓g_gets, ↓g_neg, ↓g_bin, ↓g_cmp, ↓g_cmp2, ↓g_and, ↓g_or, ↓g_not, ↓g_ite, ↓g_call, ↓g_callK, ↓g_bi, ↓g_listC, ↓g_rgT, ↓g_rgL, ↓g_isi, ↓g_isiT, ↓g_tup, ↓g_lst, ↓g_ix, ↓g_sl, ↓g_rev, ↓g_app, ↓g_upper, ↓t_and, ↓t_or, ↓t_not, ↓t_ite, ↓t_bl, ↓t_cmp, ↓t_cmp2, ↓t_call, ↓t_callK, ↓t_bi, ↓t_isi, ↓t_isiT, ↓t_ix, ↓l_nil, ↓l_cons, ↓lt_nil, ↓lt_cons, ↓looks_nil, ↓looks_cons, ↓moves_nil, ↓moves_cons, ↓i_seq, ↓i_rng1, ↓i_rng2, ↓i_enum, ↓i_zip, ↓it_list, ↓it_tuple, ↓it_s, ↓gg_n, ↓gg_t, ↓gg_ix, ↓gs_nil, ↓gs_cons, ↓g_tupS, ↓g_lstS, ↓g_lstCS, ↓g_mkL, ↓g_mkC, ↓g_ixT, ↓g_ixL, ↓g_negK, ↓g_asCell, ↓p_nil, ↓p_one, ↓s_pass, ↓s_brk, ↓s_cont, ↓s_never, ↓s_expr, ↓s_ret, ↓s_retN, ↓s_asg, ↓s_par, ↓s_par3, ↓g_rgV, ↓g_rgVK, ↓g_revL, ↓g_revT, ↓s_aug, ↓s_iff, ↓b_add, ↓b_sub, ↓b_mulr, ↓b_mull, ↓b_fdiv, ↓b_mod, ↓b_addLS, ↓b_addTS, ↓q_eqI, ↓q_neI, ↓q_eqB, ↓q_neB, ↓q_lt, ↓q_le, ↓q_gt, ↓q_ge, ↓q_isN, ↓q_isB, ↓q_isnB, ↓isB_b, ↓q_isnN, ↓q_inB, ↓q_notinB, ↓f_lenT, ↓f_lenL, ↓f_int, ↓f_abs, ↓f_max2, ↓f_min2, ↓f_tupleL, ↓f_tupleT, ↓f_listL, ↓f_listT, ↓f_divmod, ↓f_all, ↓f_any, ↓f_sum, ↓a_0, ↓a_1, ↓a_2, ↓t_v, ↓go_cons, ↓go_nil, ↓go_bind, ↓go_pure, ↓go_lookM, ↓go_lookTM, ↓go_truB, ↓go_noneM, ↓go_moveM, ↓go_ite, ↓go_fin, startE, tyB, isNone, Tgs.len, Exs.len, List.map_cons, List.map_nil, List.length_cons, List.length_nil, List.cons_append, List.nil_append, List.take_length, if_true, Bool.not_false, Bool.not_true, List.set_cons_zero, List.set_cons_succ, Nat.reduceAdd, Nat.reduceSub, List.reduceReplicate, Bool.false_eq_true, if_false, reduceIte, and_self, Bool.true_eq_false, decide_true, decide_false]
    rw [U_new rfl]
    refine s45 (by omega) (by simp) fun x' y' z' => ?_
    simp (maxSteps := 2000000) (disch := first | omega | assumption | (simp only [List.length_map, List.length_append, List.length_cons, List.length_nil, List.length_take, List.length_drop, List.length_reverse, List.length_replicate]; omega)) only [↓w_nil, ↓w_cons, ↓g_comp, ↓g_comp2, ↓s_for, ↓s_while, ↓g_non, ↓g_bl, ↓g_int, ↓g_str, ↓g_v, ↓g_g, ↓g_get0, ↓g_gets, ↓g_neg, ↓g_bin, ↓g_cmp, ↓g_cmp2, ↓g_and, ↓g_or, ↓g_not, ↓g_ite, ↓g_call, ↓g_callK, ↓g_bi, ↓g_listC, ↓g_rgT, ↓g_rgL, ↓g_isi, ↓g_isiT, ↓g_tup, ↓g_lst, ↓g_ix, ↓g_sl, ↓g_rev, ↓g_app, ↓g_upper, ↓t_and, ↓t_or, ↓t_not, ↓t_ite, ↓t_bl, ↓t_cmp, ↓t_cmp2, ↓t_call, ↓t_callK, ↓t_bi, ↓t_isi, ↓t_isiT, ↓t_ix, ↓l_nil, ↓l_cons, ↓lt_nil, ↓lt_cons, ↓looks_nil, ↓looks_cons, ↓moves_nil, ↓moves_cons, ↓i_seq, ↓i_rng1, ↓i_rng2, ↓i_enum, ↓i_zip, ↓it_list, ↓it_tuple, ↓it_s, ↓gg_n, ↓gg_t, ↓gg_ix, ↓gs_nil, ↓gs_cons, ↓g_tupS, ↓g_lstS, ↓g_lstCS, ↓g_mkL, ↓g_mkC, ↓g_ixT, ↓g_ixL, ↓g_negK, ↓g_asCell, ↓p_nil, ↓p_one, ↓s_pass, ↓s_brk, ↓s_cont, ↓s_never, ↓s_expr, ↓s_ret, ↓s_retN, ↓s_asg, ↓s_par, ↓s_par3, ↓g_rgV, ↓g_rgVK, ↓g_revL, ↓g_revT, ↓s_aug, ↓s_iff, ↓b_add, ↓b_sub, ↓b_mulr, ↓b_mull, ↓b_fdiv, ↓b_mod, ↓b_addLS, ↓b_addTS, ↓q_eqI, ↓q_neI, ↓q_eqB, ↓q_neB, ↓q_lt, ↓q_le, ↓q_gt, ↓q_ge, ↓q_isN, ↓q_isB, ↓q_isnB, ↓isB_b, ↓q_isnN, ↓q_inB, ↓q_notinB, ↓f_lenT, ↓f_lenL, ↓f_int, ↓f_abs, ↓f_max2, ↓f_min2, ↓f_tupleL, ↓f_tupleT, ↓f_listL, ↓f_listT, ↓f_divmod, ↓f_all, ↓f_any, ↓f_sum, ↓a_0, ↓a_1, ↓a_2, ↓t_v, ↓go_cons, ↓go_nil, ↓go_bind, ↓go_pure, ↓go_lookM, ↓go_lookTM, ↓go_truB, ↓go_noneM, ↓go_moveM, ↓go_ite, ↓go_fin, startE, tyB, isNone, Tgs.len, Exs.len, List.map_cons, List.map_nil, List.length_cons, List.length_nil, List.cons_append, List.nil_append, List.take_length, if_true, Bool.not_false, Bool.not_true, List.set_cons_zero, List.set_cons_succ, Nat.reduceAdd, Nat.reduceSub, List.reduceReplicate, Bool.false_eq_true, if_false, reduceIte, and_self, Bool.true_eq_false, decide_true, decide_false]
    exact ⟨fun x hx' => hx x (List.mem_cons_of_mem _ hx'), bs ++ [true], by rw [List.map_append]; rfl, by rw [List.all_append, hb]; rfl⟩
  · obtain ⟨i, rfl, i0, _⟩ := rgD_mem hx
    exact ⟨i, rfl, i0⟩
  · rintro zs s ⟨_, bs, hz, hb⟩
    rw [List.nil_append] at hz
    subst hz
    simp (maxSteps := 2000000) (disch := first | omega | assumption | (simp only [List.length_map, List.length_append, List.length_cons, List.length_nil, List.length_take, List.length_drop, List.length_reverse, List.length_replicate]; omega)) only [hb, ↓w_nil, ↓w_cons, ↓g_comp, ↓g_comp2, ↓s_for, ↓s_while, ↓g_non, ↓g_bl, ↓g_int, ↓g_str, ↓g_v, ↓g_g, ↓g_get0, ↓g_gets, ↓g_neg, ↓g_bin, ↓g_cmp, ↓g_cmp2, ↓g_and, ↓g_or, ↓g_not, ↓g_ite, ↓g_call, ↓g_callK, ↓g_bi, ↓g_listC, ↓g_rgT, ↓g_rgL, ↓g_isi, ↓g_isiT, ↓g_tup, ↓g_lst, ↓g_ix, ↓g_sl, ↓g_rev, ↓g_app, ↓g_upper, ↓t_and, ↓t_or, ↓t_not, ↓t_ite, ↓t_bl, ↓t_cmp, ↓t_cmp2, ↓t_call, ↓t_callK, ↓t_bi, ↓t_isi, ↓t_isiT, ↓t_ix, ↓l_nil, ↓l_cons, ↓lt_nil, ↓lt_cons, ↓looks_nil, ↓looks_cons, ↓moves_nil, ↓moves_cons, ↓i_seq, ↓i_rng1, ↓i_rng2, ↓i_enum, ↓i_zip, ↓it_list, ↓it_tuple, ↓it_s, ↓gg_n, ↓gg_t, ↓gg_ix, ↓gs_nil, ↓gs_cons, ↓g_tupS, ↓g_lstS, ↓g_lstCS, ↓g_mkL, ↓g_mkC, ↓g_ixT, ↓g_ixL, ↓g_negK, ↓g_asCell, ↓p_nil, ↓p_one, ↓s_pass, ↓s_brk, ↓s_cont, ↓s_never, ↓s_expr, ↓s_ret, ↓s_retN, ↓s_asg, ↓s_par, ↓s_par3, ↓g_rgV, ↓g_rgVK, ↓g_revL, ↓g_revT, ↓s_aug, ↓s_iff, ↓b_add, ↓b_sub, ↓b_mulr, ↓b_mull, ↓b_fdiv, ↓b_mod, ↓b_addLS, ↓b_addTS, ↓q_eqI, ↓q_neI, ↓q_eqB, ↓q_neB, ↓q_lt, ↓q_le, ↓q_gt, ↓q_ge, ↓q_isN, ↓q_isB, ↓q_isnB, ↓isB_b, ↓q_isnN, ↓q_inB, ↓q_notinB, ↓f_lenT, ↓f_lenL, ↓f_int, ↓f_abs, ↓f_max2, ↓f_min2, ↓f_tupleL, ↓f_tupleT, ↓f_listL, ↓f_listT, ↓f_divmod, ↓f_all, ↓f_any, ↓f_sum, ↓a_0, ↓a_1, ↓a_2, ↓t_v, ↓go_cons, ↓go_nil, ↓go_bind, ↓go_pure, ↓go_lookM, ↓go_lookTM, ↓go_truB, ↓go_noneM, ↓go_moveM, ↓go_ite, ↓go_fin, startE, tyB, isNone, Tgs.len, Exs.len, List.map_cons, List.map_nil, List.length_cons, List.length_nil, List.cons_append, List.nil_append, List.take_length, if_true, Bool.not_false, Bool.not_true, List.set_cons_zero, List.set_cons_succ, Nat.reduceAdd, Nat.reduceSub, List.reduceReplicate, Bool.false_eq_true, if_false, reduceIte, and_self, Bool.true_eq_false, decide_true, decide_false]
theorem plain (ns : List Int) (h : ns.length ≤ 63) : ∃ st', callN pr 60 46 [.s ns] [] = .ok (.d (.bool true)) st' := by
  obtain ⟨v, st', e, rfl⟩ := s46 (st := []) (n := 60) (by decide) h
  exact ⟨st', e⟩
end RL

open PySem PySem.W PySem.Calls PyProof.Rows
theorem PySem.Challenge.cw_holdterms_k43_whole_plans_beside_one_ano_holds : PySem.Challenge.rw_holdterms_k43_whole_plans_beside_one_ano.Holds := by
  w_on; o_law
  refine HandSHeadRun.head_any (r := OpenLaw.row PySem.Challenge.rw_holdterms_k43_whole_plans_beside_one_ano) (q := view (OpenLaw.row PySem.Challenge.rw_holdterms_k43_whole_plans_beside_one_ano).prog [60]) (H := RL.hk0) (ob := RL.ob0) (M := 3000) (loose := RL.looseL) (d := HandSHeadRun.topDef (OpenLaw.row PySem.Challenge.rw_holdterms_k43_whole_plans_beside_one_ano).prog 60) (kwd := []) RL.ob0_eq
    (by kernel_rfl) (fun s => by kernel_rfl) RL.run0 (by kernel_rfl) (by kernel_rfl) (by kernel_rfl) (by rfl) (by first | assumption | decide +kernel) (by decide +kernel) ⟨rfl, rfl, rfl, rfl, rfl, by decide +kernel⟩ ?hw ?hc
  case hw => w_witness2
  case hc =>
    exact RL.end_all (l := PySem.Challenge.rw_holdterms_k43_whole_plans_beside_one_ano) (n := 63) (k := 60) (x := "script") (ds := RL.dsL) (p := RL.pr) (T := RL.tw) (cs := RL.csL) (i := 46) (dl := RL.d46) rfl (by decide) (by kernel_rfl) ⟨rfl, by decide, by decide⟩ rfl rfl rfl RL.ckAll rfl rfl rfl (by kernel_rfl) rfl RL.plain
