import PyProof.Rows.All
import Wide.All
import OpenK.AllK
import Wide.FinOn
import HandS.ForMost
import PyProof.StrOps2
import HandS.Style
import HandS.TupMul
import KE.KRevSl
import HandS.Zip0
import HandS.Zip
import KE.GoesEnumKw
import KE.DataEq
import KE.SortKeyHeap
import HandS.Deep
import HandS.TupAny
import HandS.Exc
import HandS.Lambda
import HandS.IsInst
import HandS.Flt
import HandS.SortInts
import HandS.RaiseMore
import HandS.SortKw
import HandS.More
import HandS.SetFor
import HandS.Strs
import PyProof.Rows.SetFrom
import KE.GoesMore
import HandS.Comp
import HandS.Rev
import KE.DatumOrd
import HandS.StrMore
import KE.KDictCopyH
import HandS.Conv
import HandS.NestedK
import HandS.Ends
import HandS.Words
import HandS.Defaults
import HandS.HeadHook4
import HandS.Head0
import HandS.Head1
import HandS.Head2
import HandS.HeadEnd
import HandS.HeadHook1
import HandS.HeadHook2
import HandS.HeadHook3
import PyProof.StrLawsRepr
import PyProof.FitsInt
import PyProof.Fits
import PySem.Challenge.RW_ringorders_k01_minutes_orders_names_know
set_option Elab.async false
set_option linter.all false
set_option maxRecDepth 100000
set_option autoImplicit false
set_option maxHeartbeats 4000000
/-! PvMulS: a text times a number. -/
namespace Pv
open PySem PySem.Spec PyProof.Rows L2
def mulS (x : Str) (n : Int) : Str := if n < 1 then Str.empty else if (n == 1 || x.length == 0) = true then x else ⟨(List.replicate n.toNat x.cps).foldl (· ++ ·) #[]⟩
theorem fold_len (a : Array Nat) : ∀ (k : Nat) (b : Array Nat), ((List.replicate k a).foldl (· ++ ·) b).size = b.size + k * a.size
  | 0, b => by simp
  | k + 1, b => by
    rw [List.replicate_succ, List.foldl_cons, fold_len a k, Array.size_append, Nat.succ_mul]; omega
theorem mul_len {a : Str} {n : Int} (h2 : n ≤ 1000) (h3 : a.length ≤ 10000) : (⟨(List.replicate n.toNat a.cps).foldl (· ++ ·) #[]⟩ : Str).length ≤ sizeLine := by
  show ((List.replicate n.toNat a.cps).foldl (· ++ ·) #[]).size ≤ 2 ^ 24
  have := Nat.mul_le_mul (show n.toNat ≤ 1000 by omega) (show a.cps.size ≤ 10000 from h3)
  rw [fold_len]
  exact Nat.le_trans (by simpa using this) (show 1000 * 10000 ≤ 2 ^ 24 by decide)
theorem op_mulS {X : Cx} : OpR X (binaryOp .Mult) (fun x y H Q => ∃ (a : Str) (n : Int), x = .str a ∧ y = .int n ∧ (-1000 ≤ n ∧ n ≤ 1000 ∧ a.length ≤ 10000) ∧ Q (.str (mulS a n)) H) := by
  intro pins s σ H x y v u Q I rx ry h
  obtain ⟨a, n, rfl, rfl, ⟨h1, h2, h3⟩, q⟩ := h
  obtain ⟨t, rfl⟩ := rx
  obtain ⟨u, rfl⟩ := ry
  refine P.mul_str (by simp; omega) (fun _ _ => ?_) (fun _ _ => ?_) ?_
  · rename_i g1 g2
    intro c
    have hm : (a.length : Int) * n ≤ 10000 * 1000 := Int.mul_le_mul (by omega) h2 (by omega) (by decide)
    have := Int.le_ediv_of_mul_le (show 0 < n by omega) (Int.le_trans hm (show (10000 * 1000 : Int) ≤ 2 ^ 63 - 1 by decide))
    omega
  · show decide (a.length * n.toNat > 2 ^ 24) = false
    have : a.length * n.toNat ≤ 10000 * 1000 := Nat.mul_le_mul h3 (by omega)
    exact decide_eq_false (by omega)
  · unfold mulS at q
    split
    · rename_i c
      rw [if_pos c] at q
      exact ⟨by decide, ⟨.str Str.empty, H, I.tok _, ⟨_, rfl⟩, q⟩⟩
    · rename_i c
      rw [if_neg c] at q
      split
      · rename_i c2
        rw [if_pos c2] at q
        exact ⟨.str a, H, I, ⟨_, rfl⟩, q⟩
      · rename_i c2
        rw [if_neg c2] at q
        exact ⟨mul_len h2 h3, ⟨.str _, H, I.tok _, ⟨_, rfl⟩, q⟩⟩
end Pv

/-! PvX1: t[::-1], a list times a number, further rules over the hand layer. -/
namespace Pv
open PySem PySem.Spec PyProof.Rows L2 HT

section
variable {prog : Program} {w : World} {A : Around} {E : Value → Shared → Prop} {s : Shared}
theorem adjust_rev (n : Nat) : Builtin.Slice.sliceAdjust none none (-1) (n : Int) = ((n : Int) - 1, -1) := by
  unfold Builtin.Slice.sliceAdjust
  have h1 : ((-1 : Int) < 0) := by omega
  simp only [h1, if_true]
theorem places_rev (n : Nat) : Builtin.Slice.slicePlaces ((n : Int) - 1) (-1) (-1) = n := by
  unfold Builtin.Slice.slicePlaces
  have h1 : ¬ (-1 : Int) > 0 := by omega
  simp only [h1, if_false, Int.neg_neg, Int.ediv_one]
  split <;> omega
theorem pick_rev (xs : Array Value) : ((List.range xs.size).filterMap fun (m : Nat) => xs[(((xs.size : Int) - 1) + (m : Int) * (-1)).toNat]?).toArray = xs.toList.reverse.toArray := by
  congr 1
  apply List.ext_getElem?
  intro i
  have key : ∀ (k : Nat), k ≤ xs.size → ((List.range k).filterMap fun (m : Nat) => xs[(((xs.size : Int) - 1) + (m : Int) * (-1)).toNat]?) = (List.range k).map fun m => xs[xs.size - 1 - m]! := fun k => by
    induction k with
    | zero => intro _; rfl
    | succ k ih =>
      intro hk
      rw [List.range_succ, List.filterMap_append, List.map_append, ih (by omega)]
      congr 1
      have e : (((xs.size : Int) - 1) + (k : Int) * (-1)).toNat = xs.size - 1 - k := by omega
      have hl : xs.size - 1 - k < xs.size := by omega
      simp only [List.filterMap_cons, List.filterMap_nil, List.map_cons, List.map_nil, e, Array.getElem?_eq_getElem hl, getElem!_pos xs (xs.size - 1 - k) hl]
  rw [key xs.size (Nat.le_refl _)]
  by_cases hi : i < xs.size
  · have hl : xs.size - 1 - i < xs.size := by omega
    rw [List.getElem?_reverse (by simpa using hi)]
    simp [hi, getElem!_pos xs (xs.size - 1 - i) hl]
  · rw [List.getElem?_eq_none (by simp; omega), List.getElem?_eq_none (by simp; omega)]
theorem sliceApplied_rev {sl : Addr} {vs : Value} {n : Nat} {Q : Int × Int × Nat → Shared → Prop} (hs : s.heap.IsSliceOf sl .none .none vs) (ps : IsPart vs (some (-1)))
    (h : Q ((n : Int) - 1, -1, n) s) : wpAny (model prog w) A (Builtin.Slice.sliceApplied (.ref sl) (pure (n : Int))) Q E s := by
  obtain ⟨os, hos, hcs, hds⟩ := id hs
  unfold Builtin.Slice.sliceApplied Builtin.Slice.sliceFields
  refine wpAny_bind (wpAny_bind (wpAny_field hos hds (x := .none) rfl (wpAny_bind (wpAny_field hos hds (x := .none) rfl (wpAny_bind (wpAny_field hos hds (x := vs) rfl (wpAny_pure ?_)))))))
  refine wpAny_bind (slicePart_ ps ?_)
  show wpAny _ _ (if ((-1 : Int) == 0) = true then _ else _) _ _ s
  rw [if_neg (by decide)]
  refine wpAny_bind (slicePart_ .none (wpAny_bind (slicePart_ .none (wpAny_bind (wpAny_pure ?_)))))
  show wpAny _ _ (match Builtin.Slice.sliceAdjust none none (-1) (n : Int) with | (lo, hi) => pure (lo, (-1 : Int), Builtin.Slice.slicePlaces lo hi (-1))) _ _ s
  rw [adjust_rev n]
  show wpAny _ _ (pure ((n : Int) - 1, (-1 : Int), Builtin.Slice.slicePlaces ((n : Int) - 1) (-1) (-1))) _ _ s
  rw [places_rev]
  exact wpAny_pure h
theorem getItem_tuple_rev {t sl : Addr} {items : Array Value} {vs : Value} {Q : Value → Shared → Prop} (ht : IsTup s.heap t items) (hs : s.heap.IsSliceOf sl .none .none vs) (ps : IsPart vs (some (-1)))
    (h : Q (.ref s.heap.objs.size) { s with heap := s.heap.push { cls := .type "tuple", data := .seq items.toList.reverse.toArray } })
    (hsz : items.size ≤ sizeLine) : wpAny (model prog w) A (getItem (.ref t) (.ref sl)) Q E s := by
  have htake : sizeOk (.seq items.toList.reverse.toArray) := by
    show items.toList.reverse.toArray.size ≤ sizeLine
    rw [List.size_toArray, List.length_reverse, Array.length_toList]
    exact hsz
  obtain ⟨os, hos, hcs, hds⟩ := id hs
  have hTs : s.TypeIs (.ref sl) "slice" := ⟨os, hos, hcs⟩
  unfold getItem
  try with_reducible refine wpAny_holding ?_
  first | refine wpAny_bind (wpAny_pure ?_) | skip
  refine wpAny_bind (wpAny_sequenceKey ht.typeIs (by decide) ?_)
  refine wpAny_bind (wpAny_callSpecial?_slot (name := Str.ofString "__getitem__") ht.typeIs PyProof.Rows.slot_tuple_getitem
    (wpAny_call_entry PyProof.Rows.slot_tuple_getitem ht.typeIs entry_tuple_getitem ?_ (args_tuple_getitem _ _)))
  show wpAny _ _ (Builtin.Tuple.tupleItemsOf (.ref t) >>= _) _ _ s
  refine wpAny_bind (tupleItemsOf_ ht ?_)
  refine wpAny_bind (wpAny_typeOf hTs ?_)
  rw [if_pos (by decide)]
  refine wpAny_bind (sliceApplied_rev hs ps ?_)
  have hno : ¬ ((((items.size : Int) - 1) == 0 && (-1 : Int) == 1 && items.size == items.size) = true) := by
    intro q
    rw [Bool.and_eq_true, Bool.and_eq_true] at q
    exact absurd q.1.2 (by decide)
  show wpAny _ _ (if (((items.size : Int) - 1) == 0 && (-1 : Int) == 1 && items.size == items.size) = true then _ else _) _ _ s
  rw [if_neg hno, pick_rev]
  first
    | exact wpAny_bind (m := Builtin.Tuple.tupleExact _) (wpAny_newObj_type (wpAny_pure ⟨_, rfl, wpAny_pure h⟩) htake)
    | exact wpAny_bind (m := Builtin.Tuple.tupleExact _) (wpAny_newObj_type (wpAny_bind (wpAny_pure (wpAny_pure ⟨_, rfl, wpAny_pure h⟩))) htake)
    | exact wpAny_bind (wpAny_bind (m := Builtin.Tuple.tupleExact _) (wpAny_newObj_type (wpAny_pure (wpAny_pure ⟨_, rfl, wpAny_pure h⟩)) htake))
    | exact wpAny_bind (wpAny_bind (m := Builtin.Tuple.tupleExact _) (wpAny_newObj_type (wpAny_pure ⟨_, rfl, wpAny_pure h⟩) htake))
end
/-- xs[::-1], t[::-1] -/
def rRevA (K : PySem.W.Frag) : V → Hp → VK → Prop := fun x H Q => ∃ a xs, x = .ref a ∧ ((SqL K H a xs ∧ ∀ p, H p = none → Q (.ref p) (upd H p (.lst xs.reverse))) ∨ (SqT K H a xs ∧ ∀ p, H p = none → Q (.ref p) (upd H p (.tup xs.reverse))))
def tRevA (K : PySem.W.Frag) (te : TE) : TE := fun σ H Q => te σ H fun x H1 => rRevA K x H1 Q
theorem pe_revA {X : Cx} {e : Expr} {te : TE} {k : Nat} {p1 p2 p3 pos : Pos} (he : PE X e te) : PE X (.Subscript e (.Slice none none (some (.UnaryOp .USub (.Constant (.int 1) k p1) p2)) p3) pos) (tRevA X.K te) := by
  refine ⟨fun pins s σ H Q I h => ?_⟩
  refine Subscript_ (thn (he.run pins s σ H _ I h) fun v s1 ⟨x, H1, I1, r1, q1⟩ => ?_)
  obtain ⟨a, xs, ex, q1⟩ := q1
  subst ex
  cases r1
  have hst : PO X (some (.UnaryOp .USub (.Constant (.int 1) k p1) p2)) (tPart (tUn (rU fun i => .int (-i)) (tC (.int 1)))) := po_some (pe_un un_neg pe_int)
  refine wpAny_Slice (thn (po_none.run pins s1 σ H1 (fun o H2 => o = none ∧ H2 = H1) I1 ⟨rfl, rfl⟩) fun vl s2 ⟨l, H2, I2, pl, el, e2⟩ => ?_)
  subst el e2
  refine thn (po_none.run pins s2 σ H2 (fun o H3 => o = none ∧ H3 = H2) I2 ⟨rfl, rfl⟩) fun vu s3 ⟨u, H3, I3, pu, eu, e3⟩ => ?_
  subst eu e3
  refine thn (hst.run pins s3 σ H3 (fun o H4 => o = some (-1) ∧ H4 = H3) I3 ⟨1, rfl, -1, rfl, rfl, rfl⟩) fun vs s4 ⟨o, H4, I4, ps, eo, e4⟩ => ?_
  subst eo e4
  have I5 : Inv X pins σ H4 { s4 with heap := s4.heap.push { cls := .type "slice", data := .fields #[vl, vu, vs] } } := I4.kept (t' := s4.toks) fun b ob q => Heap.get?_push_of_some _ q
  show wpAny (model X.prog X.w) X.A (subscriptTail e (.Slice none none (some (.UnaryOp .USub (.Constant (.int 1) k p1) p2)) p3) (.ref a) (.ref s4.heap.objs.size)) (EP X pins σ Q) X.xe { s4 with heap := s4.heap.push { cls := .type "slice", data := .fields #[vl, vu, vs] } }
  rcases q1 with ⟨hx, q⟩ | ⟨hx, q⟩
  · obtain ⟨its, r, ht, hz⟩ := I5.list hx
    have hlen := r.length
    refine tail_any (ops := [.ref a, .ref s4.heap.objs.size]) ht.isList.typeIs (PySem.slot_list_getitem.lookup) ?_ (by with_unfolding_all rfl)
    refine wpAny_getItem_list_slice ht.isList (Heap.IsSliceOf.new _ vl vu vs) pl pu ps (by decide) ?_ (by rw [List.size_toArray]; omega)
    rw [PySem.W.krv_pick]
    refine ⟨.ref _, _, I5.laid (t' := s4.toks) (o := .lst xs.reverse) (fun b ob q => Heap.get?_push_of_some _ q) (Nat.le_refl _) ?_, rfl, q _ (I5.hok.fresh (Nat.le_refl _))⟩
    exact ⟨by rw [List.length_reverse]; exact hz, _, 0, r.reverse, Heap.get?_push_size _ rfl⟩
  · obtain ⟨its, r, ht, hz⟩ := I5.tuple hx
    have hlen := r.length
    cases pl
    cases pu
    refine tail_any (ops := [.ref a, .ref s4.heap.objs.size]) ht.typeIs (PyProof.Rows.slot_tuple_getitem.lookup) ?_ (by with_unfolding_all rfl)
    refine getItem_tuple_rev ht (Heap.IsSliceOf.new _ .none .none vs) ps ?_ (by rw [List.size_toArray]; omega)
    refine ⟨.ref _, _, I5.laid (t' := s4.toks) (o := .tup xs.reverse) (fun b ob q => Heap.get?_push_of_some _ q) (Nat.le_refl _) ?_, rfl, q _ (I5.hok.fresh (Nat.le_refl _))⟩
    exact ⟨by rw [List.length_reverse]; exact hz, _, r.reverse, IsTup.new _ _⟩
/-- xs[::2] of three -/
theorem by2_pick (x y z : Value) : slicePick [x, y, z].toArray none none (some 2) = [x, z].toArray := by
  unfold slicePick
  rw [show sliceRange (sliceBounds none none (some 2) [x, y, z].toArray.size).1 (sliceBounds none none (some 2) [x, y, z].toArray.size).2.1 (sliceBounds none none (some 2) [x, y, z].toArray.size).2.2 = [0, 2] from by
    show sliceRange (sliceBounds none none (some 2) 3).1 (sliceBounds none none (some 2) 3).2.1 (sliceBounds none none (some 2) 3).2.2 = [0, 2]
    decide +kernel]
  rfl
def rBy2 (K : PySem.W.Frag) : V → Hp → VK → Prop := fun x H Q => ∃ a u v w, x = .ref a ∧ SqL K H a [u, v, w] ∧ ∀ p, H p = none → Q (.ref p) (upd H p (.lst [u, w]))
def tBy2 (K : PySem.W.Frag) (te : TE) : TE := fun σ H Q => te σ H fun x H1 => rBy2 K x H1 Q
theorem pe_by2 {X : Cx} {e : Expr} {te : TE} {k : Nat} {p1 p3 pos : Pos} (he : PE X e te) : PE X (.Subscript e (.Slice none none (some (.Constant (.int 2) k p1)) p3) pos) (tBy2 X.K te) := by
  refine ⟨fun pins s σ H Q I h => ?_⟩
  refine Subscript_ (thn (he.run pins s σ H _ I h) fun v s1 ⟨x, H1, I1, r1, q1⟩ => ?_)
  obtain ⟨a, x1, x2, x3, ex, hx, q⟩ := q1
  subst ex
  cases r1
  have hst : PO X (some (.Constant (.int 2) k p1)) (tPart (tC (.int 2))) := po_some pe_int
  refine wpAny_Slice (thn (po_none.run pins s1 σ H1 (fun o H2 => o = none ∧ H2 = H1) I1 ⟨rfl, rfl⟩) fun vl s2 ⟨l, H2, I2, pl, el, e2⟩ => ?_)
  subst el e2
  refine thn (po_none.run pins s2 σ H2 (fun o H3 => o = none ∧ H3 = H2) I2 ⟨rfl, rfl⟩) fun vu s3 ⟨u, H3, I3, pu, eu, e3⟩ => ?_
  subst eu e3
  refine thn (hst.run pins s3 σ H3 (fun o H4 => o = some 2 ∧ H4 = H3) I3 ⟨2, rfl, rfl, rfl⟩) fun vs s4 ⟨o, H4, I4, ps, eo, e4⟩ => ?_
  subst eo e4
  have I5 : Inv X pins σ H4 { s4 with heap := s4.heap.push { cls := .type "slice", data := .fields #[vl, vu, vs] } } := I4.kept (t' := s4.toks) fun b ob q => Heap.get?_push_of_some _ q
  show wpAny (model X.prog X.w) X.A (subscriptTail e (.Slice none none (some (.Constant (.int 2) k p1)) p3) (.ref a) (.ref s4.heap.objs.size)) (EP X pins σ Q) X.xe { s4 with heap := s4.heap.push { cls := .type "slice", data := .fields #[vl, vu, vs] } }
  obtain ⟨its, r, ht, hz⟩ := I5.list hx
  obtain ⟨y1, y2, y3, rfl, r1, r3⟩ : ∃ y1 y2 y3, its = [y1, y2, y3] ∧ RelV x1 y1 ∧ RelV x3 y3 := by
    cases r with
    | cons a r => cases r with
      | cons b r => cases r with
        | cons c r => cases r; exact ⟨_, _, _, rfl, a, c⟩
  refine tail_any (ops := [.ref a, .ref s4.heap.objs.size]) ht.isList.typeIs (PySem.slot_list_getitem.lookup) ?_ (by with_unfolding_all rfl)
  refine wpAny_getItem_list_slice ht.isList (Heap.IsSliceOf.new _ vl vu vs) pl pu ps (by decide) ?_ (by show 3 ≤ sizeLine; decide)
  rw [by2_pick]
  refine ⟨.ref _, _, I5.laid (t' := s4.toks) (o := .lst [x1, x3]) (fun b ob q => Heap.get?_push_of_some _ q) (Nat.le_refl _) ?_, rfl, q _ (I5.hok.fresh (Nat.le_refl _))⟩
  exact ⟨by show 2 ≤ sizeLine; decide, _, 0, .cons r1 (.cons r3 .nil), Heap.get?_push_size _ rfl⟩
/-- a list times an int -/
def rRepL (K : PySem.W.Frag) : R2 := fun x y H Q => ∃ l k xs, x = .ref l ∧ y = .int k ∧ SqL K H l xs ∧ -(2 ^ 63) ≤ k ∧ k < 2 ^ 63 ∧ xs.length * k.toNat ≤ sizeLine ∧
  ∀ p, H p = none → Q (.ref p) (upd H p (.lst (List.replicate k.toNat xs).flatten))
theorem PlainL.at1 {h : Heap} {a : Addr} {its : Array Value} (p : PlainL h a its) : ∃ n sl, h.get? a = some ⟨.type "list", none, .seq its n, sl⟩ := by
  obtain ⟨o, n, e, c, d, q⟩ := p
  obtain ⟨oc, od, oda, osl⟩ := o
  simp only at c d q
  subst c; subst d; subst q
  exact ⟨n, osl, e⟩
theorem int_rmul_listW (a : Int) (t : Tok) (l : Addr) (items : Array Value) (n : Nat) (dd : Option Addr) (sl : Array (Option Value)) :
    Meets (Builtin.«int.__rmul__» ⟨[.int a t, .ref l], []⟩) (fun _ R s => s.heap.get? l = some { cls := .type "list", dict := dd, data := .seq items n, slots := sl } ∧ R (.ok (.ret Value.notImplemented)) s) :=
  .of_wp fun prog w A R s h => by obtain ⟨hp, g, d, tk, os⟩ := s; obtain ⟨hl, h⟩ := h; wp_walk using wpAny_loadPart' hl; exact ⟨_, rfl, h⟩
theorem list_mulW (l : Addr) (items : Array Value) (n : Nat) (dd : Option Addr) (sl : Array (Option Value)) (x : Int) (u : Tok) (hc0 : ¬(!Builtin.List.listFitsIndex x) = true) (hc1 : ¬items.size * x.toNat > (2 ^ 63 - 1) / 8) (hc2 : ¬Builtin.List.listTooLong (items.size * x.toNat) = true) :
    Meets (Builtin.«list.__mul__» ⟨[.ref l, .int x u], []⟩) (fun _ R s => s.heap.get? l = some { cls := .type "list", dict := dd, data := .seq items n, slots := sl } ∧ R (.ok (.ret (Value.ref s.heap.objs.size))) { s with heap := s.heap.push { cls := Value.type "list", data := Data.seq (List.foldl (fun x1 x2 => x1 ++ x2) #[] (List.replicate (if items.isEmpty = true then 0 else x.toNat) items)) }, toks := s.toks }) :=
  .of_wp fun prog w A R s h => by
    obtain ⟨hp, g, d, tk, os⟩ := s; obtain ⟨hl, h⟩ := h
    have hsz := PySem.AutoListH.joined_fits hc2
    wp_walk using wpAny_loadPart' hl; refine wpAny_ite_false (decide_eq_false (Nat.not_lt.mpr hsz)) ?_; wp_walk using wpAny_loadPart' hl; exact ⟨_, rfl, h⟩
theorem op_repL {X : Cx} : OpR X (binaryOp .Mult) (rRepL X.K) := by
  intro pins s σ H x y v u Q I rx ry h
  obtain ⟨l, k, xs, rfl, rfl, hH, h1, h2, hz, q⟩ := h
  cases rx
  obtain ⟨t, rfl⟩ := ry
  obtain ⟨its, r, p, z⟩ := I.list hH
  obtain ⟨n, sl, e⟩ := PlainL.at1 p
  have hl := r.length
  have hlen : its.toArray.size * k.toNat ≤ sizeLine := by rw [List.size_toArray, ← hl]; exact hz
  have hcap : ¬ its.toArray.size * k.toNat > (2 ^ 63 - 1) / 8 := by
    have : (sizeLine : Nat) ≤ (2 ^ 63 - 1) / 8 := by decide
    omega
  have hfit : ¬ (!Builtin.List.listFitsIndex k) = true := by
    rw [fitsIndex_both h1 h2]
    exact Bool.false_ne_true
  have hlong : ¬ Builtin.List.listTooLong (its.toArray.size * k.toNat) = true := by
    rw [notLongL hlen]
    exact Bool.false_ne_true
  have hnew : List.foldl (fun x1 x2 => x1 ++ x2) #[] (List.replicate (if its.toArray.isEmpty = true then 0 else k.toNat) its.toArray) = (List.replicate k.toNat its).flatten.toArray := by
    have f0 : ∀ m : Nat, List.foldl (fun x1 x2 => x1 ++ x2) #[] (List.replicate m its.toArray) = (List.replicate m its).flatten.toArray := fun m => by
      have := foldl_rep its m []
      rw [List.nil_append] at this
      exact this
    rw [f0]
    cases its with
    | nil => simp
    | cons a r' => rw [if_neg (by simp)]
  refine wpAny_binaryOp_repeat_ref (T := "list") (U := "int") (by decide) ⟨_, e, rfl⟩ (fun s' => typeIs_int s' k t) noFill_list_mul F.fills_int_mul F.slot_int_rmul repeat_list F.slot_int_index.lookup
    (call_meets F.slot_int_rmul (typeIs_int s k t) F.entry_int_rmul (F.args_int_rmul_2 _ _) (int_rmul_listW k t l its.toArray n none sl)
      ⟨e, rfl, ⟨_, e, rfl⟩, call_meets F.slot_list_mul ⟨_, e, rfl⟩ F.entry_list_mul (F.args_list_mul_2 _ _) (list_mulW l its.toArray n none sl k t hfit hcap hlong) ⟨e, ?_⟩⟩)
  rw [hnew]
  exact ⟨.ref _, _, I.lnew (t' := s.toks) (r.rep k.toNat) (by rw [PyProof.Rows.lm_len_rep_flat, Nat.mul_comm]; exact hz), rfl, q _ I.fresh⟩
end Pv

/-! PvZip: zip(a, b, strict=True) of two lists, of two tuples of one length. -/
namespace Pv
open PySem PySem.Spec PyProof.Rows L2 RZ

abbrev IsZipS (h : Heap) (z TI TO : Addr) (f0 : Value) : Prop :=
  h.get? z = some { cls := .type "zip", dict := none, data := .fields #[f0, .bool false, .bool true, .ref TI, .ref TO], slots := #[] }
section
variable {prog : Program} {w : World} {A : Around} {E : Value → Shared → Prop} {s : Shared}
theorem stop_raises {Q : Fin → Shared → Prop} (hh : A.handled = none)
    (hE : ∀ h' e tk, (∀ c o, s.heap.get? c = some o → h'.get? c = some o) → (∃ o, h'.get? e = some o ∧ o.cls = .type "StopIteration") → E (.ref e) { s with heap := h', toks := tk }) :
    wpAny (model prog w) A (Builtin.SmallTypes.stopIteration : Sem Fin) Q E s := by
  unfold Builtin.SmallTypes.stopIteration
  refine wpAny_bind ?_
  simp only [newExc, newTuple]
  refine wpAny_bind (wpAny_newObj_type ?_ (by size_fits))
  refine wpAny_bind (m := firstArgMember _ _) (wpAny_of_eq (a := Value.none) (by first | rfl | (simp only [firstArgMember]; rfl)) ?_)
  refine wpAny_newObj_type ?_ (by size_fits)
  simp only [raiseNew]
  refine wpAny_bind (wpAny_handled ?_)
  rw [hh]
  refine wpAny_bind (wpAny_pure (wpAny_throw ?_))
  exact hE _ _ _ (fun c o h => Heap.get?_push_of_some _ (Heap.get?_push_of_some _ h)) ⟨_, Heap.get?_push_size _ rfl, rfl⟩

theorem nextOrEnd_T_item {it l : Addr} {i : Nat} {items} {x : Value} {Q : Option Value → Shared → Prop} (hit : s.heap.IsTupleIter it l i)
    (hl : s.heap.IsTuple l items) (hx : items[i]? = some x)
    (hQ : ∀ h', h'.IsTupleIter it l (i + 1) → Heap.SameBut it s.heap h' → Q (some x) { s with heap := h' }) :
    wpAny (model prog w) A (Builtin.SmallTypes.nextOrEnd (.ref it)) Q E s := by
  unfold Builtin.SmallTypes.nextOrEnd
  exact wpAny_bind (wpAny_attempt (nextOf_tuple_item hit hl hx fun h' a b => wpAny_pure (hQ h' a b)))
theorem nextOrEnd_T_end {it l : Addr} {i : Nat} {items} {Q : Option Value → Shared → Prop} (hh : A.handled = none) (hit : s.heap.IsTupleIter it l i)
    (hl : s.heap.IsTuple l items) (hx : items[i]? = none)
    (hQ : ∀ h', Heap.ExtBut it s.heap h' → Q none { s with heap := h' }) :
    wpAny (model prog w) A (Builtin.SmallTypes.nextOrEnd (.ref it)) Q E s := by
  unfold Builtin.SmallTypes.nextOrEnd
  refine wpAny_bind (wpAny_attempt (nextOf_tuple_end hh hit hl hx fun h' e hk he => ?_))
  obtain ⟨o, ho, hc⟩ := he
  refine wpAny_bind (wpAny_isInstance (T := "StopIteration") (b := true) ⟨o, ho, hc⟩ isSubtype_stop ?_)
  exact wpAny_pure (hQ _ hk)
theorem zipST_next_item {z TI TO i1 i2 l1 l2 : Addr} {k1 k2 : Nat} {xs ys : Array Value} {x y a b : Value} {Q : Value → Shared → Prop} (D : ZipApart z TI TO i1 i2 l1 l2)
    (hz : IsZipS s.heap z TI TO .none) (hTI : IsPair s.heap TI (.ref i1) (.ref i2)) (hTO : IsPair s.heap TO a b)
    (h1 : s.heap.IsTupleIter i1 l1 k1) (h2 : s.heap.IsTupleIter i2 l2 k2) (hl1 : s.heap.IsTuple l1 xs) (hl2 : s.heap.IsTuple l2 ys) (hx : xs[k1]? = some x) (hy : ys[k2]? = some y)
    (hQ : ∀ h', IsZipS h' z TI TO (rawInt s.heap.objs.size) → IsPair h' TO x y → h'.IsTupleIter i1 l1 (k1 + 1) → h'.IsTupleIter i2 l2 (k2 + 1) → IsPair h' s.heap.objs.size x y → h'.objs.size = s.heap.objs.size + 1 →
      (∀ c o, c ≠ z → c ≠ TO → c ≠ i1 → c ≠ i2 → s.heap.get? c = some o → h'.get? c = some o) → Q (.ref s.heap.objs.size) { s with heap := h' }) :
    wpAny (model prog w) A (Builtin.«zip.__next__» ⟨[.ref z], []⟩) (fun fin s' => ∃ v, fin = .done (.ret v) ∧ Q v s') E s := by
  show wpAny _ _ (field (.ref z) 2 >>= _) _ _ _
  refine wpAny_bind (wpAny_field hz rfl (x := .bool true) rfl ?_)
  show wpAny _ _ (field (.ref z) 3 >>= _) _ _ _
  refine wpAny_bind (wpAny_field hz rfl (x := .ref TI) rfl ?_)
  refine wpAny_bind (wpAny_seqItems hTI rfl ?_)
  show wpAny _ _ (Builtin.SmallTypes.ownedTupleIsFree (.ref z) >>= _) _ _ _
  refine wpAny_bind ?_
  unfold Builtin.SmallTypes.ownedTupleIsFree
  refine wpAny_bind (wpAny_field hz rfl (x := .none) rfl (wpAny_pure ?_))
  simp only [if_true]
  refine wpAny_bind (wpAny_rule ?_)
  refine wpAny_bind (wpAny_field hz rfl (x := .ref TO) rfl ?_)
  refine wpAny_bind (wpAny_setField_rec hz (by simp) fun h₁ hz₁ hs₁ => ?_)
  replace hz₁ : IsZipS h₁ z TI TO .ellipsis := hz₁
  refine wpAny_bind ?_
  simp only [List.zipIdx_cons, List.zipIdx_nil, List.forIn_cons, List.forIn_nil]
  refine wpAny_bind (wpAny_bind (wpAny_onRaise ?_))
  show wpAny _ _ (Builtin.SmallTypes.nextOrEnd (.ref i1)) _ _ _
  refine nextOrEnd_T_item (h1.extBut hs₁.extBut D.i1z) (hl1.extBut hs₁.extBut D.l1z) hx fun h₂ h1₂ hs₂ => ?_
  have hTO₂ : IsPair h₂ TO a b := hs₂.extBut _ _ D.TOi1 (hs₁.extBut _ _ D.TOz hTO)
  refine wpAny_bind (wpAny_seqItems hTO₂ rfl ?_)
  refine wpAny_bind (wpAny_updateSeq_pair hTO₂ fun h₃ hTO₃ hs₃ => ?_)
  replace hTO₃ : IsPair h₃ TO x b := hTO₃
  refine wpAny_bind (wpAny_letGo (wpAny_pure ?_))
  refine wpAny_bind (wpAny_bind (wpAny_onRaise ?_))
  show wpAny _ _ (Builtin.SmallTypes.nextOrEnd (.ref i2)) _ _ _
  refine nextOrEnd_T_item (((h2.extBut hs₁.extBut D.i2z).extBut hs₂.extBut D.i12.symm).extBut hs₃.extBut D.TOi2.symm)
    (((hl2.extBut hs₁.extBut D.l2z).extBut hs₂.extBut D.l2i1).extBut hs₃.extBut D.l2TO) hy fun h₄ h2₄ hs₄ => ?_
  have hTO₄ : IsPair h₄ TO x b := hs₄.extBut _ _ D.TOi2 hTO₃
  refine wpAny_bind (wpAny_seqItems hTO₄ rfl ?_)
  refine wpAny_bind (wpAny_updateSeq_pair hTO₄ fun h₅ hTO₅ hs₅ => ?_)
  replace hTO₅ : IsPair h₅ TO x y := hTO₅
  refine wpAny_bind (wpAny_letGo (wpAny_pure (wpAny_pure ?_)))
  refine wpAny_bind (wpAny_seqItems hTO₅ rfl ?_)
  refine wpAny_bind (wpAny_newTuple ?_)
  have hsz : h₅.objs.size = s.heap.objs.size := by rw [hs₅.1, hs₄.1, hs₃.1, hs₂.1, hs₁.1]
  have hz₅ : IsZipS h₅ z TI TO .ellipsis := hs₅.extBut _ _ D.TOz.symm (hs₄.extBut _ _ D.i2z.symm (hs₃.extBut _ _ D.TOz.symm (hs₂.extBut _ _ D.i1z.symm hz₁)))
  have hk₅ : ∀ c o, c ≠ z → c ≠ TO → c ≠ i1 → c ≠ i2 → s.heap.get? c = some o → h₅.get? c = some o := fun c o c1 c2 c3 c4 e =>
    hs₅.extBut _ _ c2 (hs₄.extBut _ _ c4 (hs₃.extBut _ _ c2 (hs₂.extBut _ _ c3 (hs₁.extBut _ _ c1 e))))
  have h1₅ : h₅.IsTupleIter i1 l1 (k1 + 1) := ((h1₂.extBut hs₃.extBut D.TOi1.symm).extBut hs₄.extBut D.i12).extBut hs₅.extBut D.TOi1.symm
  have h2₅ : h₅.IsTupleIter i2 l2 (k2 + 1) := h2₄.extBut hs₅.extBut D.TOi2.symm
  have hzlt : z < h₅.objs.size := Heap.lt_size hz₅
  show wpAny _ _ (Builtin.SmallTypes.ownedTupleHandOut (.ref z) (.ref h₅.objs.size) >>= _) _ _ _
  refine wpAny_bind ?_
  unfold Builtin.SmallTypes.ownedTupleHandOut
  have hz₆ : IsZipS (h₅.push { cls := .type "tuple", data := .seq #[x, y] }) z TI TO .ellipsis := Heap.get?_push_of_some _ hz₅
  refine wpAny_bind (wpAny_setField_rec hz₆ (by simp) fun h₇ hz₇ hs₇ => ?_)
  replace hz₇ : IsZipS h₇ z TI TO (rawInt h₅.objs.size) := hz₇
  refine wpAny_setField_rec hz₇ (by simp) fun h₈ hz₈ hs₈ => ?_
  replace hz₈ : IsZipS h₈ z TI TO (rawInt h₅.objs.size) := hz₈
  have up : ∀ c o, c ≠ z → h₅.get? c = some o → h₈.get? c = some o := fun c o c1 e => hs₈.extBut _ _ c1 (hs₇.extBut _ _ c1 (Heap.get?_push_of_some _ e))
  have hT₈ : IsPair h₈ h₅.objs.size x y := hs₈.extBut _ _ (Nat.ne_of_gt hzlt) (hs₇.extBut _ _ (Nat.ne_of_gt hzlt) (Heap.get?_push_size _ rfl))
  have hz8 : h₈.objs.size = h₅.objs.size + 1 := by rw [hs₈.1, hs₇.1, Heap.size_push]
  rw [hsz] at hz₈ hT₈ hz8
  refine wpAny_pure ⟨_, rfl, ?_⟩
  show Q (.ref h₅.objs.size) _
  rw [hsz]
  exact hQ h₈ hz₈ (up _ _ D.TOz hTO₅) (h1₅.at fun o e => up _ o D.i1z e) (h2₅.at fun o e => up _ o D.i2z e) hT₈ hz8 fun c o c1 c2 c3 c4 e => up c o c1 (hk₅ c o c1 c2 c3 c4 e)
theorem zipST_next_end {z TI TO i1 i2 l1 l2 : Addr} {k1 k2 : Nat} {xs ys : Array Value} {a b : Value} {Q : Fin → Shared → Prop} (hh : A.handled = none) (D : ZipApart z TI TO i1 i2 l1 l2)
    (hz : IsZipS s.heap z TI TO .none) (hTI : IsPair s.heap TI (.ref i1) (.ref i2)) (hTO : IsPair s.heap TO a b)
    (h1 : s.heap.IsTupleIter i1 l1 k1) (h2 : s.heap.IsTupleIter i2 l2 k2) (hl1 : s.heap.IsTuple l1 xs) (hl2 : s.heap.IsTuple l2 ys) (hx : xs[k1]? = none) (hy : ys[k2]? = none)
    (hE : ∀ h' e tk, (∀ c o, c ≠ z → c ≠ TO → c ≠ i1 → c ≠ i2 → s.heap.get? c = some o → h'.get? c = some o) → (∃ o, h'.get? e = some o ∧ o.cls = .type "StopIteration") → E (.ref e) { s with heap := h', toks := tk }) :
    wpAny (model prog w) A (Builtin.«zip.__next__» ⟨[.ref z], []⟩) Q E s := by
  show wpAny _ _ (field (.ref z) 2 >>= _) _ _ _
  refine wpAny_bind (wpAny_field hz rfl (x := .bool true) rfl ?_)
  show wpAny _ _ (field (.ref z) 3 >>= _) _ _ _
  refine wpAny_bind (wpAny_field hz rfl (x := .ref TI) rfl ?_)
  refine wpAny_bind (wpAny_seqItems hTI rfl ?_)
  show wpAny _ _ (Builtin.SmallTypes.ownedTupleIsFree (.ref z) >>= _) _ _ _
  refine wpAny_bind ?_
  unfold Builtin.SmallTypes.ownedTupleIsFree
  refine wpAny_bind (wpAny_field hz rfl (x := .none) rfl (wpAny_pure ?_))
  simp only [if_true]
  refine wpAny_bind (wpAny_rule ?_)
  refine wpAny_bind (wpAny_field hz rfl (x := .ref TO) rfl ?_)
  refine wpAny_bind (wpAny_setField_rec hz (by simp) fun h₁ hz₁ hs₁ => ?_)
  replace hz₁ : IsZipS h₁ z TI TO .ellipsis := hz₁
  refine wpAny_bind ?_
  simp only [List.zipIdx_cons, List.zipIdx_nil, List.forIn_cons, List.forIn_nil]
  refine wpAny_bind (wpAny_bind (wpAny_onRaise ?_))
  show wpAny _ _ (Builtin.SmallTypes.nextOrEnd (.ref i1)) _ _ _
  refine nextOrEnd_T_end hh (h1.extBut hs₁.extBut D.i1z) (hl1.extBut hs₁.extBut D.l1z) hx fun h₂ hs₂ => ?_
  have hz₂ : IsZipS h₂ z TI TO .ellipsis := hs₂ _ _ D.i1z.symm hz₁
  refine wpAny_bind (wpAny_setField_rec hz₂ (by simp) fun h₃ _ hs₃ => ?_)
  refine wpAny_bind ?_
  show wpAny _ _ (_ >>= _) _ _ _
  refine wpAny_bind ?_
  simp only [List.drop_succ_cons, List.drop_zero, List.zipIdx_cons, List.zipIdx_nil, List.forIn_cons, List.forIn_nil]
  have up : ∀ c o, c ≠ z → c ≠ i1 → s.heap.get? c = some o → h₃.get? c = some o := fun c o c1 c2 e => hs₃.extBut _ _ c1 (hs₂ _ _ c2 (hs₁.extBut _ _ c1 e))
  refine wpAny_bind (wpAny_bind (nextOrEnd_T_end hh (h2.at fun o e => up _ o D.i2z D.i12.symm e) (hl2.at fun o e => up _ o D.l2z D.l2i1 e) hy fun h₄ hs₄ => ?_))
  simp only [Option.isSome_none, Bool.false_eq_true, if_false]
  refine wpAny_pure (wpAny_pure (wpAny_bind (wpAny_rule ?_)))
  exact stop_raises hh fun h' e tk hk he => hE h' e tk (fun c o c1 c2 c3 c4 q => hk _ _ (hs₄ _ _ c4 (up c o c1 c3 q))) he
theorem pyNext_zipST_item {z TI TO i1 i2 l1 l2 : Addr} {k1 k2 : Nat} {xs ys : Array Value} {x y a b : Value} {Q : Option Value → Shared → Prop} (D : ZipApart z TI TO i1 i2 l1 l2)
    (hz : IsZipS s.heap z TI TO .none) (hTI : IsPair s.heap TI (.ref i1) (.ref i2)) (hTO : IsPair s.heap TO a b)
    (h1 : s.heap.IsTupleIter i1 l1 k1) (h2 : s.heap.IsTupleIter i2 l2 k2) (hl1 : s.heap.IsTuple l1 xs) (hl2 : s.heap.IsTuple l2 ys) (hx : xs[k1]? = some x) (hy : ys[k2]? = some y)
    (hQ : ∀ h', IsZipS h' z TI TO (rawInt s.heap.objs.size) → IsPair h' TO x y → h'.IsTupleIter i1 l1 (k1 + 1) → h'.IsTupleIter i2 l2 (k2 + 1) → IsPair h' s.heap.objs.size x y → h'.objs.size = s.heap.objs.size + 1 →
      (∀ c o, c ≠ z → c ≠ TO → c ≠ i1 → c ≠ i2 → s.heap.get? c = some o → h'.get? c = some o) → Q (some (.ref s.heap.objs.size)) { s with heap := h' }) :
    wpAny (model prog w) A (pyNext (.ref z)) Q E s := by
  have hT : s.TypeIs (.ref z) "zip" := ⟨_, hz, rfl⟩
  unfold pyNext
  exact wpAny_bind (wpAny_attempt (wpAny_callSpecial?_slot (name := Str.ofString "__next__") hT F.slot_zip_next
    (wpAny_call_entry F.slot_zip_next hT F.entry_zip_next
      (zipST_next_item D hz hTI hTO h1 h2 hl1 hl2 hx hy fun h' a1 a2 a3 a4 a5 a6 a7 => wpAny_pure (hQ h' a1 a2 a3 a4 a5 a6 a7)) (F.args_zip_next_1 _))))
theorem pyNext_zipST_end {z TI TO i1 i2 l1 l2 : Addr} {k1 k2 : Nat} {xs ys : Array Value} {a b : Value} {Q : Option Value → Shared → Prop} (hh : A.handled = none) (D : ZipApart z TI TO i1 i2 l1 l2)
    (hz : IsZipS s.heap z TI TO .none) (hTI : IsPair s.heap TI (.ref i1) (.ref i2)) (hTO : IsPair s.heap TO a b)
    (h1 : s.heap.IsTupleIter i1 l1 k1) (h2 : s.heap.IsTupleIter i2 l2 k2) (hl1 : s.heap.IsTuple l1 xs) (hl2 : s.heap.IsTuple l2 ys) (hx : xs[k1]? = none) (hy : ys[k2]? = none)
    (hQ : ∀ h' tk, (∀ c o, c ≠ z → c ≠ TO → c ≠ i1 → c ≠ i2 → s.heap.get? c = some o → h'.get? c = some o) → Q none { s with heap := h', toks := tk }) : wpAny (model prog w) A (pyNext (.ref z)) Q E s := by
  have hT : s.TypeIs (.ref z) "zip" := ⟨_, hz, rfl⟩
  unfold pyNext
  refine wpAny_bind (wpAny_attempt (wpAny_callSpecial?_slot (name := Str.ofString "__next__") hT F.slot_zip_next
    (wpAny_call_entry F.slot_zip_next hT F.entry_zip_next (zipST_next_end hh D hz hTI hTO h1 h2 hl1 hl2 hx hy fun h' e tk hk he => ?_) (F.args_zip_next_1 _))))
  obtain ⟨o, ho, hc⟩ := he
  refine wpAny_bind (wpAny_isInstance (T := "StopIteration") (b := true) ⟨o, ho, hc⟩ isSubtype_stop ?_)
  exact wpAny_pure (hQ _ _ hk)

theorem nextOrEnd_L_item {it l : Addr} {i : Nat} {items} {x : Value} {Q : Option Value → Shared → Prop} (hit : s.heap.IsListIter it l i)
    (hl : s.heap.IsList l items) (hx : items[i]? = some x)
    (hQ : ∀ h', h'.IsListIter it l (i + 1) → Heap.SameBut it s.heap h' → Q (some x) { s with heap := h' }) :
    wpAny (model prog w) A (Builtin.SmallTypes.nextOrEnd (.ref it)) Q E s := by
  unfold Builtin.SmallTypes.nextOrEnd
  exact wpAny_bind (wpAny_attempt (wpAny_nextOf_list_item hit hl hx fun h' a b => wpAny_pure (hQ h' a b)))
theorem nextOrEnd_L_end {it l : Addr} {i : Nat} {items} {Q : Option Value → Shared → Prop} (hh : A.handled = none) (hit : s.heap.IsListIter it l i)
    (hl : s.heap.IsList l items) (hx : items[i]? = none)
    (hQ : ∀ h', Heap.ExtBut it s.heap h' → Q none { s with heap := h' }) :
    wpAny (model prog w) A (Builtin.SmallTypes.nextOrEnd (.ref it)) Q E s := by
  unfold Builtin.SmallTypes.nextOrEnd
  refine wpAny_bind (wpAny_attempt (wpAny_nextOf_list_end hh hit hl hx fun h' e hk he => ?_))
  obtain ⟨o, ho, hc⟩ := he
  refine wpAny_bind (wpAny_isInstance (T := "StopIteration") (b := true) ⟨o, ho, hc⟩ isSubtype_stop ?_)
  exact wpAny_pure (hQ _ hk)
theorem zipSL_next_item {z TI TO i1 i2 l1 l2 : Addr} {k1 k2 : Nat} {xs ys : Array Value} {x y a b : Value} {Q : Value → Shared → Prop} (D : ZipApart z TI TO i1 i2 l1 l2)
    (hz : IsZipS s.heap z TI TO .none) (hTI : IsPair s.heap TI (.ref i1) (.ref i2)) (hTO : IsPair s.heap TO a b)
    (h1 : s.heap.IsListIter i1 l1 k1) (h2 : s.heap.IsListIter i2 l2 k2) (hl1 : s.heap.IsList l1 xs) (hl2 : s.heap.IsList l2 ys) (hx : xs[k1]? = some x) (hy : ys[k2]? = some y)
    (hQ : ∀ h', IsZipS h' z TI TO (rawInt s.heap.objs.size) → IsPair h' TO x y → h'.IsListIter i1 l1 (k1 + 1) → h'.IsListIter i2 l2 (k2 + 1) → IsPair h' s.heap.objs.size x y → h'.objs.size = s.heap.objs.size + 1 →
      (∀ c o, c ≠ z → c ≠ TO → c ≠ i1 → c ≠ i2 → s.heap.get? c = some o → h'.get? c = some o) → Q (.ref s.heap.objs.size) { s with heap := h' }) :
    wpAny (model prog w) A (Builtin.«zip.__next__» ⟨[.ref z], []⟩) (fun fin s' => ∃ v, fin = .done (.ret v) ∧ Q v s') E s := by
  show wpAny _ _ (field (.ref z) 2 >>= _) _ _ _
  refine wpAny_bind (wpAny_field hz rfl (x := .bool true) rfl ?_)
  show wpAny _ _ (field (.ref z) 3 >>= _) _ _ _
  refine wpAny_bind (wpAny_field hz rfl (x := .ref TI) rfl ?_)
  refine wpAny_bind (wpAny_seqItems hTI rfl ?_)
  show wpAny _ _ (Builtin.SmallTypes.ownedTupleIsFree (.ref z) >>= _) _ _ _
  refine wpAny_bind ?_
  unfold Builtin.SmallTypes.ownedTupleIsFree
  refine wpAny_bind (wpAny_field hz rfl (x := .none) rfl (wpAny_pure ?_))
  simp only [if_true]
  refine wpAny_bind (wpAny_rule ?_)
  refine wpAny_bind (wpAny_field hz rfl (x := .ref TO) rfl ?_)
  refine wpAny_bind (wpAny_setField_rec hz (by simp) fun h₁ hz₁ hs₁ => ?_)
  replace hz₁ : IsZipS h₁ z TI TO .ellipsis := hz₁
  refine wpAny_bind ?_
  simp only [List.zipIdx_cons, List.zipIdx_nil, List.forIn_cons, List.forIn_nil]
  refine wpAny_bind (wpAny_bind (wpAny_onRaise ?_))
  show wpAny _ _ (Builtin.SmallTypes.nextOrEnd (.ref i1)) _ _ _
  refine nextOrEnd_L_item (h1.extBut hs₁.extBut D.i1z) (hl1.extBut hs₁.extBut D.l1z) hx fun h₂ h1₂ hs₂ => ?_
  have hTO₂ : IsPair h₂ TO a b := hs₂.extBut _ _ D.TOi1 (hs₁.extBut _ _ D.TOz hTO)
  refine wpAny_bind (wpAny_seqItems hTO₂ rfl ?_)
  refine wpAny_bind (wpAny_updateSeq_pair hTO₂ fun h₃ hTO₃ hs₃ => ?_)
  replace hTO₃ : IsPair h₃ TO x b := hTO₃
  refine wpAny_bind (wpAny_letGo (wpAny_pure ?_))
  refine wpAny_bind (wpAny_bind (wpAny_onRaise ?_))
  show wpAny _ _ (Builtin.SmallTypes.nextOrEnd (.ref i2)) _ _ _
  refine nextOrEnd_L_item (((h2.extBut hs₁.extBut D.i2z).extBut hs₂.extBut D.i12.symm).extBut hs₃.extBut D.TOi2.symm)
    (((hl2.extBut hs₁.extBut D.l2z).extBut hs₂.extBut D.l2i1).extBut hs₃.extBut D.l2TO) hy fun h₄ h2₄ hs₄ => ?_
  have hTO₄ : IsPair h₄ TO x b := hs₄.extBut _ _ D.TOi2 hTO₃
  refine wpAny_bind (wpAny_seqItems hTO₄ rfl ?_)
  refine wpAny_bind (wpAny_updateSeq_pair hTO₄ fun h₅ hTO₅ hs₅ => ?_)
  replace hTO₅ : IsPair h₅ TO x y := hTO₅
  refine wpAny_bind (wpAny_letGo (wpAny_pure (wpAny_pure ?_)))
  refine wpAny_bind (wpAny_seqItems hTO₅ rfl ?_)
  refine wpAny_bind (wpAny_newTuple ?_)
  have hsz : h₅.objs.size = s.heap.objs.size := by rw [hs₅.1, hs₄.1, hs₃.1, hs₂.1, hs₁.1]
  have hz₅ : IsZipS h₅ z TI TO .ellipsis := hs₅.extBut _ _ D.TOz.symm (hs₄.extBut _ _ D.i2z.symm (hs₃.extBut _ _ D.TOz.symm (hs₂.extBut _ _ D.i1z.symm hz₁)))
  have hk₅ : ∀ c o, c ≠ z → c ≠ TO → c ≠ i1 → c ≠ i2 → s.heap.get? c = some o → h₅.get? c = some o := fun c o c1 c2 c3 c4 e =>
    hs₅.extBut _ _ c2 (hs₄.extBut _ _ c4 (hs₃.extBut _ _ c2 (hs₂.extBut _ _ c3 (hs₁.extBut _ _ c1 e))))
  have h1₅ : h₅.IsListIter i1 l1 (k1 + 1) := ((h1₂.extBut hs₃.extBut D.TOi1.symm).extBut hs₄.extBut D.i12).extBut hs₅.extBut D.TOi1.symm
  have h2₅ : h₅.IsListIter i2 l2 (k2 + 1) := h2₄.extBut hs₅.extBut D.TOi2.symm
  have hzlt : z < h₅.objs.size := Heap.lt_size hz₅
  show wpAny _ _ (Builtin.SmallTypes.ownedTupleHandOut (.ref z) (.ref h₅.objs.size) >>= _) _ _ _
  refine wpAny_bind ?_
  unfold Builtin.SmallTypes.ownedTupleHandOut
  have hz₆ : IsZipS (h₅.push { cls := .type "tuple", data := .seq #[x, y] }) z TI TO .ellipsis := Heap.get?_push_of_some _ hz₅
  refine wpAny_bind (wpAny_setField_rec hz₆ (by simp) fun h₇ hz₇ hs₇ => ?_)
  replace hz₇ : IsZipS h₇ z TI TO (rawInt h₅.objs.size) := hz₇
  refine wpAny_setField_rec hz₇ (by simp) fun h₈ hz₈ hs₈ => ?_
  replace hz₈ : IsZipS h₈ z TI TO (rawInt h₅.objs.size) := hz₈
  have up : ∀ c o, c ≠ z → h₅.get? c = some o → h₈.get? c = some o := fun c o c1 e => hs₈.extBut _ _ c1 (hs₇.extBut _ _ c1 (Heap.get?_push_of_some _ e))
  have hT₈ : IsPair h₈ h₅.objs.size x y := hs₈.extBut _ _ (Nat.ne_of_gt hzlt) (hs₇.extBut _ _ (Nat.ne_of_gt hzlt) (Heap.get?_push_size _ rfl))
  have hz8 : h₈.objs.size = h₅.objs.size + 1 := by rw [hs₈.1, hs₇.1, Heap.size_push]
  rw [hsz] at hz₈ hT₈ hz8
  refine wpAny_pure ⟨_, rfl, ?_⟩
  show Q (.ref h₅.objs.size) _
  rw [hsz]
  exact hQ h₈ hz₈ (up _ _ D.TOz hTO₅) (h1₅.at fun o e => up _ o D.i1z e) (h2₅.at fun o e => up _ o D.i2z e) hT₈ hz8 fun c o c1 c2 c3 c4 e => up c o c1 (hk₅ c o c1 c2 c3 c4 e)
theorem zipSL_next_end {z TI TO i1 i2 l1 l2 : Addr} {k1 k2 : Nat} {xs ys : Array Value} {a b : Value} {Q : Fin → Shared → Prop} (hh : A.handled = none) (D : ZipApart z TI TO i1 i2 l1 l2)
    (hz : IsZipS s.heap z TI TO .none) (hTI : IsPair s.heap TI (.ref i1) (.ref i2)) (hTO : IsPair s.heap TO a b)
    (h1 : s.heap.IsListIter i1 l1 k1) (h2 : s.heap.IsListIter i2 l2 k2) (hl1 : s.heap.IsList l1 xs) (hl2 : s.heap.IsList l2 ys) (hx : xs[k1]? = none) (hy : ys[k2]? = none)
    (hE : ∀ h' e tk, (∀ c o, c ≠ z → c ≠ TO → c ≠ i1 → c ≠ i2 → s.heap.get? c = some o → h'.get? c = some o) → (∃ o, h'.get? e = some o ∧ o.cls = .type "StopIteration") → E (.ref e) { s with heap := h', toks := tk }) :
    wpAny (model prog w) A (Builtin.«zip.__next__» ⟨[.ref z], []⟩) Q E s := by
  show wpAny _ _ (field (.ref z) 2 >>= _) _ _ _
  refine wpAny_bind (wpAny_field hz rfl (x := .bool true) rfl ?_)
  show wpAny _ _ (field (.ref z) 3 >>= _) _ _ _
  refine wpAny_bind (wpAny_field hz rfl (x := .ref TI) rfl ?_)
  refine wpAny_bind (wpAny_seqItems hTI rfl ?_)
  show wpAny _ _ (Builtin.SmallTypes.ownedTupleIsFree (.ref z) >>= _) _ _ _
  refine wpAny_bind ?_
  unfold Builtin.SmallTypes.ownedTupleIsFree
  refine wpAny_bind (wpAny_field hz rfl (x := .none) rfl (wpAny_pure ?_))
  simp only [if_true]
  refine wpAny_bind (wpAny_rule ?_)
  refine wpAny_bind (wpAny_field hz rfl (x := .ref TO) rfl ?_)
  refine wpAny_bind (wpAny_setField_rec hz (by simp) fun h₁ hz₁ hs₁ => ?_)
  replace hz₁ : IsZipS h₁ z TI TO .ellipsis := hz₁
  refine wpAny_bind ?_
  simp only [List.zipIdx_cons, List.zipIdx_nil, List.forIn_cons, List.forIn_nil]
  refine wpAny_bind (wpAny_bind (wpAny_onRaise ?_))
  show wpAny _ _ (Builtin.SmallTypes.nextOrEnd (.ref i1)) _ _ _
  refine nextOrEnd_L_end hh (h1.extBut hs₁.extBut D.i1z) (hl1.extBut hs₁.extBut D.l1z) hx fun h₂ hs₂ => ?_
  have hz₂ : IsZipS h₂ z TI TO .ellipsis := hs₂ _ _ D.i1z.symm hz₁
  refine wpAny_bind (wpAny_setField_rec hz₂ (by simp) fun h₃ _ hs₃ => ?_)
  refine wpAny_bind ?_
  show wpAny _ _ (_ >>= _) _ _ _
  refine wpAny_bind ?_
  simp only [List.drop_succ_cons, List.drop_zero, List.zipIdx_cons, List.zipIdx_nil, List.forIn_cons, List.forIn_nil]
  have up : ∀ c o, c ≠ z → c ≠ i1 → s.heap.get? c = some o → h₃.get? c = some o := fun c o c1 c2 e => hs₃.extBut _ _ c1 (hs₂ _ _ c2 (hs₁.extBut _ _ c1 e))
  refine wpAny_bind (wpAny_bind (nextOrEnd_L_end hh (h2.at fun o e => up _ o D.i2z D.i12.symm e) (hl2.at fun o e => up _ o D.l2z D.l2i1 e) hy fun h₄ hs₄ => ?_))
  simp only [Option.isSome_none, Bool.false_eq_true, if_false]
  refine wpAny_pure (wpAny_pure (wpAny_bind (wpAny_rule ?_)))
  exact stop_raises hh fun h' e tk hk he => hE h' e tk (fun c o c1 c2 c3 c4 q => hk _ _ (hs₄ _ _ c4 (up c o c1 c3 q))) he
theorem pyNext_zipSL_item {z TI TO i1 i2 l1 l2 : Addr} {k1 k2 : Nat} {xs ys : Array Value} {x y a b : Value} {Q : Option Value → Shared → Prop} (D : ZipApart z TI TO i1 i2 l1 l2)
    (hz : IsZipS s.heap z TI TO .none) (hTI : IsPair s.heap TI (.ref i1) (.ref i2)) (hTO : IsPair s.heap TO a b)
    (h1 : s.heap.IsListIter i1 l1 k1) (h2 : s.heap.IsListIter i2 l2 k2) (hl1 : s.heap.IsList l1 xs) (hl2 : s.heap.IsList l2 ys) (hx : xs[k1]? = some x) (hy : ys[k2]? = some y)
    (hQ : ∀ h', IsZipS h' z TI TO (rawInt s.heap.objs.size) → IsPair h' TO x y → h'.IsListIter i1 l1 (k1 + 1) → h'.IsListIter i2 l2 (k2 + 1) → IsPair h' s.heap.objs.size x y → h'.objs.size = s.heap.objs.size + 1 →
      (∀ c o, c ≠ z → c ≠ TO → c ≠ i1 → c ≠ i2 → s.heap.get? c = some o → h'.get? c = some o) → Q (some (.ref s.heap.objs.size)) { s with heap := h' }) :
    wpAny (model prog w) A (pyNext (.ref z)) Q E s := by
  have hT : s.TypeIs (.ref z) "zip" := ⟨_, hz, rfl⟩
  unfold pyNext
  exact wpAny_bind (wpAny_attempt (wpAny_callSpecial?_slot (name := Str.ofString "__next__") hT F.slot_zip_next
    (wpAny_call_entry F.slot_zip_next hT F.entry_zip_next
      (zipSL_next_item D hz hTI hTO h1 h2 hl1 hl2 hx hy fun h' a1 a2 a3 a4 a5 a6 a7 => wpAny_pure (hQ h' a1 a2 a3 a4 a5 a6 a7)) (F.args_zip_next_1 _))))
theorem pyNext_zipSL_end {z TI TO i1 i2 l1 l2 : Addr} {k1 k2 : Nat} {xs ys : Array Value} {a b : Value} {Q : Option Value → Shared → Prop} (hh : A.handled = none) (D : ZipApart z TI TO i1 i2 l1 l2)
    (hz : IsZipS s.heap z TI TO .none) (hTI : IsPair s.heap TI (.ref i1) (.ref i2)) (hTO : IsPair s.heap TO a b)
    (h1 : s.heap.IsListIter i1 l1 k1) (h2 : s.heap.IsListIter i2 l2 k2) (hl1 : s.heap.IsList l1 xs) (hl2 : s.heap.IsList l2 ys) (hx : xs[k1]? = none) (hy : ys[k2]? = none)
    (hQ : ∀ h' tk, (∀ c o, c ≠ z → c ≠ TO → c ≠ i1 → c ≠ i2 → s.heap.get? c = some o → h'.get? c = some o) → Q none { s with heap := h', toks := tk }) : wpAny (model prog w) A (pyNext (.ref z)) Q E s := by
  have hT : s.TypeIs (.ref z) "zip" := ⟨_, hz, rfl⟩
  unfold pyNext
  refine wpAny_bind (wpAny_attempt (wpAny_callSpecial?_slot (name := Str.ofString "__next__") hT F.slot_zip_next
    (wpAny_call_entry F.slot_zip_next hT F.entry_zip_next (zipSL_next_end hh D hz hTI hTO h1 h2 hl1 hl2 hx hy fun h' e tk hk he => ?_) (F.args_zip_next_1 _))))
  obtain ⟨o, ho, hc⟩ := he
  refine wpAny_bind (wpAny_isInstance (T := "StopIteration") (b := true) ⟨o, ho, hc⟩ isSubtype_stop ?_)
  exact wpAny_pure (hQ _ _ hk)

theorem go_zipS {elts : List Expr} {x1} {pos : Pos} {z TI TO T : Addr} {Q : Unit → Shared → Prop} (hz : IsZipS s.heap z TI TO (rawInt T))
    (hQ : ∀ h', IsZipS h' z TI TO .none → Heap.SameBut z s.heap h' → Q () { s with heap := h' }) :
    wpAny (model prog w) A (letOwnedTupleGo (.Tuple elts x1 pos) (.ref z) (.ref T)) Q E s := by
  unfold letOwnedTupleGo
  refine wpAny_bind (wpAny_load hz ?_)
  show wpAny _ _ (if (["enumerate", "zip", "dict_itemiterator", "dict_reverseitemiterator", "odict_iterator", "itertools.zip_longest", "itertools.pairwise"].contains "zip" &&
      (#[rawInt T, .bool false, .bool true, .ref TI, .ref TO] : Array Value)[0]? == some (rawInt T)) = true then _ else _) Q E s
  rw [if_pos (by simp)]
  refine wpAny_bind (wpAny_rule ?_)
  show wpAny _ _ (setField (.ref z) 0 .none) Q E s
  exact wpAny_setField_rec hz (by simp) fun h' hz' hs' => hQ h' hz' hs'
theorem iter_zipS {z TI TO : Addr} {f0 : Value} {Q : Value → Shared → Prop} (hz : IsZipS s.heap z TI TO f0) (h : Q (.ref z) s) : wpAny (model prog w) A (pyIter (.ref z)) Q E s := by
  have hT : s.TypeIs (.ref z) "zip" := ⟨_, hz, rfl⟩
  refine wpAny_pyIter_slot hT F.slot_zip_iter (wpAny_call_entry F.slot_zip_iter hT F.entry_zip_iter ?_ (F.args_zip_iter_1 _))
  show wpAny _ _ (ret (.ref z)) _ _ s
  exact wpAny_pure ⟨_, rfl, "zip", _, hT, F.slot_zip_next.lookup, h⟩
end
theorem typeCall_zip_s (a b c : Value) : checkTypeCall "zip" ⟨[a, b], [(Str.ofString "strict", c)]⟩ = pure () := by kernel_rfl
theorem newCall_zip_s (a b c : Value) : checkBuiltinCall "zip.__new__" ⟨[.type "zip", a, b], [(Str.ofString "strict", c)]⟩ = pure () := by kernel_rfl
theorem args_object_init_s (obj a b c : Value) : argsOk "object.__init__" ⟨[obj, a, b], [(Str.ofString "strict", c)]⟩ := by unfold argsOk; kernel_rfl

abbrev zST1 (h : Heap) (l1 : Addr) : Heap := h.push { cls := .type "tuple_iterator", data := .fields #[.ref l1, .int 0 0] }
abbrev zST2 (h : Heap) (l1 l2 : Addr) : Heap := (zST1 h l1).push { cls := .type "tuple_iterator", data := .fields #[.ref l2, .int 0 0] }
abbrev zST3 (h : Heap) (l1 l2 : Addr) : Heap := (zST2 h l1 l2).push { cls := .type "tuple", data := .seq #[.ref h.objs.size, .ref (zST1 h l1).objs.size] }
abbrev zST4 (h : Heap) (l1 l2 : Addr) : Heap := (zST3 h l1 l2).push { cls := .type "tuple", data := .seq #[.none, .none] }
abbrev zST5 (h : Heap) (l1 l2 : Addr) : Heap := (zST4 h l1 l2).push { cls := .type "zip", data := .fields #[.none, .bool false, .bool true, .ref (zST2 h l1 l2).objs.size, .ref (zST3 h l1 l2).objs.size] }
theorem meets_zipST_new (l1 l2 : Addr) (xs ys : Array Value) :
    Meets (Builtin.«zip.__new__» ⟨[.type "zip", .ref l1, .ref l2], [(Str.ofString "strict", .bool true)]⟩) (fun _ R s => s.heap.IsTuple l1 xs ∧ s.heap.IsTuple l2 ys ∧
      R (.ok (.ret (.ref (zST4 s.heap l1 l2).objs.size))) { s with heap := zST5 s.heap l1 l2 }) :=
  .of_wp fun prog w A R s h => by
    obtain ⟨hp, g, d, tk, os⟩ := s; obtain ⟨hl1, hl2, h⟩ := h
    have hsub := sub_zip
    have hL1 : Heap.IsTuple (Shared.heap ⟨hp, g, d, tk, os⟩) l1 xs := hl1
    have hL2 : Heap.IsTuple (Shared.heap ⟨hp.push { cls := .type "tuple_iterator", data := .fields #[.ref l1, .int 0 0] }, g, d, tk, os⟩) l2 ys := Heap.IsTuple.push hl2 _
    have e1 : (Str.ofString "strict" == ("strict" : Str)) = true := by decide +kernel
    have e2 : (Str.ofString "strict" != ("strict" : Str)) = false := by decide +kernel
    wp_walk using wpAny_pyIter_tuple hL1, wpAny_pyIter_tuple hL2
    exact ⟨_, rfl, h⟩
section
variable {prog : Program} {w : World} {A : Around} {E : Value → Shared → Prop} {s : Shared}
theorem call_zipST {l1 l2 : Addr} {xs ys : Array Value} {Q : Value → Shared → Prop} (hl1 : s.heap.IsTuple l1 xs) (hl2 : s.heap.IsTuple l2 ys)
    (h : ∀ h', IsZipS h' (s.heap.objs.size + 4) (s.heap.objs.size + 2) (s.heap.objs.size + 3) .none → IsPair h' (s.heap.objs.size + 2) (.ref s.heap.objs.size) (.ref (s.heap.objs.size + 1)) →
      IsPair h' (s.heap.objs.size + 3) .none .none → h'.IsTupleIter s.heap.objs.size l1 0 → h'.IsTupleIter (s.heap.objs.size + 1) l2 0 → h'.objs.size = s.heap.objs.size + 5 →
      (∀ c o, s.heap.get? c = some o → h'.get? c = some o) → Q (.ref (s.heap.objs.size + 4)) { s with heap := h' }) :
    wpAny (model prog w) A (call (.type "zip") [.ref l1, .ref l2] [(Str.ofString "strict", .bool true)]) Q E s := by
  refine callType_newKw F.called_zip (by decide) (typeCall_zip_s _ _ _) (newCall_zip_s _ _ _) (fun obj => args_object_init_s obj _ _ _) F.entry_zip_new
    (meets_zipST_new l1 l2 xs ys) ⟨hl1, hl2, ?_⟩
  have z1 : (zST1 s.heap l1).objs.size = s.heap.objs.size + 1 := Heap.size_push ..
  have z2 : (zST2 s.heap l1 l2).objs.size = s.heap.objs.size + 2 := by rw [Heap.size_push, z1]
  have z3 : (zST3 s.heap l1 l2).objs.size = s.heap.objs.size + 3 := by rw [Heap.size_push, z2]
  have z4 : (zST4 s.heap l1 l2).objs.size = s.heap.objs.size + 4 := by rw [Heap.size_push, z3]
  have z5 : (zST5 s.heap l1 l2).objs.size = s.heap.objs.size + 5 := by rw [Heap.size_push, z4]
  have g5 : (zST5 s.heap l1 l2).get? (zST4 s.heap l1 l2).objs.size = some _ := Heap.get?_push_size _ rfl
  have g4 : (zST5 s.heap l1 l2).get? (zST3 s.heap l1 l2).objs.size = some _ := Heap.get?_push_of_some _ (Heap.get?_push_size _ rfl)
  have g3 : (zST5 s.heap l1 l2).get? (zST2 s.heap l1 l2).objs.size = some _ := Heap.get?_push_of_some _ (Heap.get?_push_of_some _ (Heap.get?_push_size _ rfl))
  have g2 : (zST5 s.heap l1 l2).get? (zST1 s.heap l1).objs.size = some _ := Heap.get?_push_of_some _ (Heap.get?_push_of_some _ (Heap.get?_push_of_some _ (Heap.get?_push_size _ rfl)))
  have g1 : (zST5 s.heap l1 l2).get? s.heap.objs.size = some _ := Heap.get?_push_of_some _ (Heap.get?_push_of_some _ (Heap.get?_push_of_some _ (Heap.get?_push_of_some _ (Heap.get?_push_size _ rfl))))
  show _ ∧ _
  rw [z2, z3, z4] at g5
  rw [z1, z2] at g3
  rw [z3] at g4
  rw [z1] at g2
  rw [z4]
  exact ⟨⟨_, g5, rfl⟩, h _ g5 g3 g4 ⟨_, g1, rfl, rfl⟩ ⟨_, g2, rfl, rfl⟩ z5 fun c o x =>
    Heap.get?_push_of_some _ (Heap.get?_push_of_some _ (Heap.get?_push_of_some _ (Heap.get?_push_of_some _ (Heap.get?_push_of_some _ x))))⟩
end
/-- the turns of a strict zip: both end at once -/
def IzsT (K : PySem.W.Frag) (a b : Addr) : It :=
  ⟨fun i H => ∃ (xs ys : List V) (x y : V), SqT K H a xs ∧ SqT K H b ys ∧ xs[i]? = some x ∧ ys[i]? = some y,
    fun i H v H' => ∃ T x y, v = .ref T ∧ H T = none ∧ H' = upd H T (.tup [x, y]) ∧ (∀ xs, SqT K H a xs → xs[i]? = some x) ∧ ∀ ys, SqT K H b ys → ys[i]? = some y,
    fun i H => ∃ xs ys : List V, SqT K H a xs ∧ SqT K H b ys ∧ xs.length ≤ i ∧ ys.length ≤ i⟩
theorem turn_zipST {P : Program} {w : World} {K : PySem.W.Frag} {elts : List Expr} {kk : Nat} {tpos : Pos} {a b z TI TO i1 i2 : Addr} (D : ZipApart z TI TO i1 i2 a b) :
    Turn P w K (.Tuple elts kk tpos) (IzsT K a b) [z, TI, TO, i1, i2] z (fun i h => IsZipS h z TI TO .none ∧ IsPair h TI (.ref i1) (.ref i2) ∧ (∃ x y, IsPair h TO x y) ∧ h.IsTupleIter i1 a i ∧ h.IsTupleIter i2 b i) where
  mem := by simp
  obj := fun i h st c hc => by
    obtain ⟨hz, hTI, ⟨x, y, hTO⟩, ⟨o1, e1, _, d1⟩, ⟨o2, e2, _, d2⟩⟩ := st
    have e' : c = z ∨ c = TI ∨ c = TO ∨ c = i1 ∨ c = i2 := by simpa using hc
    rcases e' with q | q | q | q | q
    · rw [q]; exact ⟨_, hz, fun v q => nomatch q⟩
    · rw [q]; exact ⟨_, hTI, fun v q => nomatch q⟩
    · rw [q]; exact ⟨_, hTO, fun v q => nomatch q⟩
    · rw [q]; exact ⟨o1, e1, fun v q => by rw [d1] at q; cases q⟩
    · rw [q]; exact ⟨o2, e2, fun v q => by rw [d2] at q; cases q⟩
  keep := fun i h h' st k => by
    obtain ⟨hz, hTI, ⟨x, y, hTO⟩, h1, h2⟩ := st
    exact ⟨k z (by simp) _ hz, k TI (by simp) _ hTI, ⟨x, y, k TO (by simp) _ hTO⟩, h1.at fun o q => k i1 (by simp) o q, h2.at fun o q => k i2 (by simp) o q⟩
  item := by
    intro X hP hw hK hc i pins s σ H E I hf st hg
    subst hP hw hK
    obtain ⟨hz, hTI, ⟨x0, y0, hTO⟩, h1, h2⟩ := st
    obtain ⟨xs, ys, x, y, hqx, hqy, hx, hy⟩ := hg
    obtain ⟨its, rv, p, _⟩ := I.tuple hqx
    obtain ⟨its2, rv2, p2, _⟩ := I.tuple hqy
    obtain ⟨u, hu, ru⟩ := rv.get hx
    obtain ⟨u2, hu2, ru2⟩ := rv2.get hy
    have hzl : z < s.heap.objs.size := Heap.lt_size hz
    refine pyNext_zipST_item D hz hTI hTO h1 h2 p p2 (x := u) (y := u2) (by simpa using hu) (by simpa using hu2) fun h' z' TO' h1' h2' hT hsz hk => ?_
    refine ⟨_, rfl, go_zipS (s := { s with heap := h' }) z' fun h'' z'' sb => ?_⟩
    have hT2 : h''.get? s.heap.objs.size = some { cls := .type "tuple", data := .seq #[u, u2] } := (sb.2 _ (Nat.ne_of_gt hzl)).trans hT
    have new : ObjOk X.prog X.w (upd H s.heap.objs.size (.tup [x, y])) h'' s.heap.objs.size (.tup [x, y]) :=
      ⟨by show 2 ≤ sizeLine; decide, [u, u2], .cons ru (.cons ru2 .nil), ⟨_, hT2, rfl, _, rfl⟩⟩
    have I1 : Inv X pins σ (upd H s.heap.objs.size (.tup [x, y])) { s with heap := h'' } :=
      I.turnedNew (t' := s.toks) (ch := [z, TI, TO, i1, i2]) (fun c o hb q => (sb.2 c (fun q' => hb (by simp [q']))).trans (hk c o (fun q' => hb (by simp [q'])) (fun q' => hb (by simp [q'])) (fun q' => hb (by simp [q'])) (fun q' => hb (by simp [q'])) q)) hf (Nat.le_refl _) new
    refine ⟨.ref s.heap.objs.size, _, I1, rfl, ⟨_, x, y, rfl, I.hok.fresh (Nat.le_refl _), rfl, fun l hl => by rw [I.tuple_inj hl hqx]; exact hx, fun l hl => by rw [I.tuple_inj hl hqy]; exact hy⟩, ⟨z'', ?_, ⟨u, u2, ?_⟩, ?_, ?_⟩, fun c hcm => ?_⟩
    · exact (sb.2 _ D.TIz).trans (hk _ _ D.TIz D.TITO D.TIi1 D.TIi2 hTI)
    · exact (sb.2 _ D.TOz).trans TO'
    · exact h1'.at fun o q => (sb.2 _ D.i1z).trans q
    · exact h2'.at fun o q => (sb.2 _ D.i2z).trans q
    · have hlt : c < s.heap.objs.size := by
        have e' : c = z ∨ c = TI ∨ c = TO ∨ c = i1 ∨ c = i2 := by simpa using hcm
        rcases e' with q | q | q | q | q
        · rw [q]; exact hzl
        · rw [q]; exact Heap.lt_size hTI
        · rw [q]; exact Heap.lt_size hTO
        · rw [q]; obtain ⟨_, e1, _⟩ := h1; exact Heap.lt_size e1
        · rw [q]; obtain ⟨_, e2, _⟩ := h2; exact Heap.lt_size e2
      rw [upd_ne (Nat.ne_of_lt hlt)]
      exact (hf c hcm).1
  done := by
    intro X hP hw hK hc i pins s σ H E I hf st hg
    subst hP hw hK
    obtain ⟨hz, hTI, ⟨x0, y0, hTO⟩, h1, h2⟩ := st
    obtain ⟨xs, ys, hqx, hqy, hend1, hend2⟩ := hg
    obtain ⟨its, rv, p, _⟩ := I.tuple hqx
    obtain ⟨its2, rv2, p2, _⟩ := I.tuple hqy
    have l1 := rv.length
    have l2 := rv2.length
    exact pyNext_zipST_end (I.ok.hd hc) D hz hTI hTO h1 h2 p p2 (by simp; omega) (by simp; omega) fun h' tk hk => ⟨rfl, I.turnedL (t' := tk) (ch := [z, TI, TO, i1, i2]) (fun c o hb q =>
      hk c o (fun q' => hb (by simp [q'])) (fun q' => hb (by simp [q'])) (fun q' => hb (by simp [q'])) (fun q' => hb (by simp [q'])) q) hf⟩
  self := fun A i s Q E st h => iter_zipS st.1 h

abbrev zSL1 (h : Heap) (l1 : Addr) : Heap := h.push { cls := .type "list_iterator", data := .fields #[.ref l1, .int 0 0] }
abbrev zSL2 (h : Heap) (l1 l2 : Addr) : Heap := (zSL1 h l1).push { cls := .type "list_iterator", data := .fields #[.ref l2, .int 0 0] }
abbrev zSL3 (h : Heap) (l1 l2 : Addr) : Heap := (zSL2 h l1 l2).push { cls := .type "tuple", data := .seq #[.ref h.objs.size, .ref (zSL1 h l1).objs.size] }
abbrev zSL4 (h : Heap) (l1 l2 : Addr) : Heap := (zSL3 h l1 l2).push { cls := .type "tuple", data := .seq #[.none, .none] }
abbrev zSL5 (h : Heap) (l1 l2 : Addr) : Heap := (zSL4 h l1 l2).push { cls := .type "zip", data := .fields #[.none, .bool false, .bool true, .ref (zSL2 h l1 l2).objs.size, .ref (zSL3 h l1 l2).objs.size] }
theorem meets_zipSL_new (l1 l2 : Addr) (xs ys : Array Value) :
    Meets (Builtin.«zip.__new__» ⟨[.type "zip", .ref l1, .ref l2], [(Str.ofString "strict", .bool true)]⟩) (fun _ R s => s.heap.IsList l1 xs ∧ s.heap.IsList l2 ys ∧
      R (.ok (.ret (.ref (zSL4 s.heap l1 l2).objs.size))) { s with heap := zSL5 s.heap l1 l2 }) :=
  .of_wp fun prog w A R s h => by
    obtain ⟨hp, g, d, tk, os⟩ := s; obtain ⟨hl1, hl2, h⟩ := h
    have hsub := sub_zip
    have hL1 : Heap.IsList (Shared.heap ⟨hp, g, d, tk, os⟩) l1 xs := hl1
    have hL2 : Heap.IsList (Shared.heap ⟨hp.push { cls := .type "list_iterator", data := .fields #[.ref l1, .int 0 0] }, g, d, tk, os⟩) l2 ys := Heap.IsList.push hl2 _
    have e1 : (Str.ofString "strict" == ("strict" : Str)) = true := by decide +kernel
    have e2 : (Str.ofString "strict" != ("strict" : Str)) = false := by decide +kernel
    wp_walk using wpAny_pyIter_list hL1, wpAny_pyIter_list hL2
    exact ⟨_, rfl, h⟩
section
variable {prog : Program} {w : World} {A : Around} {E : Value → Shared → Prop} {s : Shared}
theorem call_zipSL {l1 l2 : Addr} {xs ys : Array Value} {Q : Value → Shared → Prop} (hl1 : s.heap.IsList l1 xs) (hl2 : s.heap.IsList l2 ys)
    (h : ∀ h', IsZipS h' (s.heap.objs.size + 4) (s.heap.objs.size + 2) (s.heap.objs.size + 3) .none → IsPair h' (s.heap.objs.size + 2) (.ref s.heap.objs.size) (.ref (s.heap.objs.size + 1)) →
      IsPair h' (s.heap.objs.size + 3) .none .none → h'.IsListIter s.heap.objs.size l1 0 → h'.IsListIter (s.heap.objs.size + 1) l2 0 → h'.objs.size = s.heap.objs.size + 5 →
      (∀ c o, s.heap.get? c = some o → h'.get? c = some o) → Q (.ref (s.heap.objs.size + 4)) { s with heap := h' }) :
    wpAny (model prog w) A (call (.type "zip") [.ref l1, .ref l2] [(Str.ofString "strict", .bool true)]) Q E s := by
  refine callType_newKw F.called_zip (by decide) (typeCall_zip_s _ _ _) (newCall_zip_s _ _ _) (fun obj => args_object_init_s obj _ _ _) F.entry_zip_new
    (meets_zipSL_new l1 l2 xs ys) ⟨hl1, hl2, ?_⟩
  have z1 : (zSL1 s.heap l1).objs.size = s.heap.objs.size + 1 := Heap.size_push ..
  have z2 : (zSL2 s.heap l1 l2).objs.size = s.heap.objs.size + 2 := by rw [Heap.size_push, z1]
  have z3 : (zSL3 s.heap l1 l2).objs.size = s.heap.objs.size + 3 := by rw [Heap.size_push, z2]
  have z4 : (zSL4 s.heap l1 l2).objs.size = s.heap.objs.size + 4 := by rw [Heap.size_push, z3]
  have z5 : (zSL5 s.heap l1 l2).objs.size = s.heap.objs.size + 5 := by rw [Heap.size_push, z4]
  have g5 : (zSL5 s.heap l1 l2).get? (zSL4 s.heap l1 l2).objs.size = some _ := Heap.get?_push_size _ rfl
  have g4 : (zSL5 s.heap l1 l2).get? (zSL3 s.heap l1 l2).objs.size = some _ := Heap.get?_push_of_some _ (Heap.get?_push_size _ rfl)
  have g3 : (zSL5 s.heap l1 l2).get? (zSL2 s.heap l1 l2).objs.size = some _ := Heap.get?_push_of_some _ (Heap.get?_push_of_some _ (Heap.get?_push_size _ rfl))
  have g2 : (zSL5 s.heap l1 l2).get? (zSL1 s.heap l1).objs.size = some _ := Heap.get?_push_of_some _ (Heap.get?_push_of_some _ (Heap.get?_push_of_some _ (Heap.get?_push_size _ rfl)))
  have g1 : (zSL5 s.heap l1 l2).get? s.heap.objs.size = some _ := Heap.get?_push_of_some _ (Heap.get?_push_of_some _ (Heap.get?_push_of_some _ (Heap.get?_push_of_some _ (Heap.get?_push_size _ rfl))))
  show _ ∧ _
  rw [z2, z3, z4] at g5
  rw [z1, z2] at g3
  rw [z3] at g4
  rw [z1] at g2
  rw [z4]
  exact ⟨⟨_, g5, rfl⟩, h _ g5 g3 g4 ⟨_, g1, rfl, rfl⟩ ⟨_, g2, rfl, rfl⟩ z5 fun c o x =>
    Heap.get?_push_of_some _ (Heap.get?_push_of_some _ (Heap.get?_push_of_some _ (Heap.get?_push_of_some _ (Heap.get?_push_of_some _ x))))⟩
end
/-- the turns of a strict zip: both end at once -/
def IzsL (K : PySem.W.Frag) (a b : Addr) : It :=
  ⟨fun i H => ∃ (xs ys : List V) (x y : V), SqL K H a xs ∧ SqL K H b ys ∧ xs[i]? = some x ∧ ys[i]? = some y,
    fun i H v H' => ∃ T x y, v = .ref T ∧ H T = none ∧ H' = upd H T (.tup [x, y]) ∧ (∀ xs, SqL K H a xs → xs[i]? = some x) ∧ ∀ ys, SqL K H b ys → ys[i]? = some y,
    fun i H => ∃ xs ys : List V, SqL K H a xs ∧ SqL K H b ys ∧ xs.length ≤ i ∧ ys.length ≤ i⟩
theorem turn_zipSL {P : Program} {w : World} {K : PySem.W.Frag} {elts : List Expr} {kk : Nat} {tpos : Pos} {a b z TI TO i1 i2 : Addr} (D : ZipApart z TI TO i1 i2 a b) :
    Turn P w K (.Tuple elts kk tpos) (IzsL K a b) [z, TI, TO, i1, i2] z (fun i h => IsZipS h z TI TO .none ∧ IsPair h TI (.ref i1) (.ref i2) ∧ (∃ x y, IsPair h TO x y) ∧ h.IsListIter i1 a i ∧ h.IsListIter i2 b i) where
  mem := by simp
  obj := fun i h st c hc => by
    obtain ⟨hz, hTI, ⟨x, y, hTO⟩, ⟨o1, e1, _, d1⟩, ⟨o2, e2, _, d2⟩⟩ := st
    have e' : c = z ∨ c = TI ∨ c = TO ∨ c = i1 ∨ c = i2 := by simpa using hc
    rcases e' with q | q | q | q | q
    · rw [q]; exact ⟨_, hz, fun v q => nomatch q⟩
    · rw [q]; exact ⟨_, hTI, fun v q => nomatch q⟩
    · rw [q]; exact ⟨_, hTO, fun v q => nomatch q⟩
    · rw [q]; exact ⟨o1, e1, fun v q => by rw [d1] at q; cases q⟩
    · rw [q]; exact ⟨o2, e2, fun v q => by rw [d2] at q; cases q⟩
  keep := fun i h h' st k => by
    obtain ⟨hz, hTI, ⟨x, y, hTO⟩, h1, h2⟩ := st
    exact ⟨k z (by simp) _ hz, k TI (by simp) _ hTI, ⟨x, y, k TO (by simp) _ hTO⟩, h1.at fun o q => k i1 (by simp) o q, h2.at fun o q => k i2 (by simp) o q⟩
  item := by
    intro X hP hw hK hc i pins s σ H E I hf st hg
    subst hP hw hK
    obtain ⟨hz, hTI, ⟨x0, y0, hTO⟩, h1, h2⟩ := st
    obtain ⟨xs, ys, x, y, hqx, hqy, hx, hy⟩ := hg
    obtain ⟨its, rv, p, _⟩ := I.list hqx
    obtain ⟨its2, rv2, p2, _⟩ := I.list hqy
    obtain ⟨u, hu, ru⟩ := rv.get hx
    obtain ⟨u2, hu2, ru2⟩ := rv2.get hy
    have hzl : z < s.heap.objs.size := Heap.lt_size hz
    refine pyNext_zipSL_item D hz hTI hTO h1 h2 p.isList p2.isList (x := u) (y := u2) (by simpa using hu) (by simpa using hu2) fun h' z' TO' h1' h2' hT hsz hk => ?_
    refine ⟨_, rfl, go_zipS (s := { s with heap := h' }) z' fun h'' z'' sb => ?_⟩
    have hT2 : h''.get? s.heap.objs.size = some { cls := .type "tuple", data := .seq #[u, u2] } := (sb.2 _ (Nat.ne_of_gt hzl)).trans hT
    have new : ObjOk X.prog X.w (upd H s.heap.objs.size (.tup [x, y])) h'' s.heap.objs.size (.tup [x, y]) :=
      ⟨by show 2 ≤ sizeLine; decide, [u, u2], .cons ru (.cons ru2 .nil), ⟨_, hT2, rfl, _, rfl⟩⟩
    have I1 : Inv X pins σ (upd H s.heap.objs.size (.tup [x, y])) { s with heap := h'' } :=
      I.turnedNew (t' := s.toks) (ch := [z, TI, TO, i1, i2]) (fun c o hb q => (sb.2 c (fun q' => hb (by simp [q']))).trans (hk c o (fun q' => hb (by simp [q'])) (fun q' => hb (by simp [q'])) (fun q' => hb (by simp [q'])) (fun q' => hb (by simp [q'])) q)) hf (Nat.le_refl _) new
    refine ⟨.ref s.heap.objs.size, _, I1, rfl, ⟨_, x, y, rfl, I.hok.fresh (Nat.le_refl _), rfl, fun l hl => by rw [I.list_inj hl hqx]; exact hx, fun l hl => by rw [I.list_inj hl hqy]; exact hy⟩, ⟨z'', ?_, ⟨u, u2, ?_⟩, ?_, ?_⟩, fun c hcm => ?_⟩
    · exact (sb.2 _ D.TIz).trans (hk _ _ D.TIz D.TITO D.TIi1 D.TIi2 hTI)
    · exact (sb.2 _ D.TOz).trans TO'
    · exact h1'.at fun o q => (sb.2 _ D.i1z).trans q
    · exact h2'.at fun o q => (sb.2 _ D.i2z).trans q
    · have hlt : c < s.heap.objs.size := by
        have e' : c = z ∨ c = TI ∨ c = TO ∨ c = i1 ∨ c = i2 := by simpa using hcm
        rcases e' with q | q | q | q | q
        · rw [q]; exact hzl
        · rw [q]; exact Heap.lt_size hTI
        · rw [q]; exact Heap.lt_size hTO
        · rw [q]; obtain ⟨_, e1, _⟩ := h1; exact Heap.lt_size e1
        · rw [q]; obtain ⟨_, e2, _⟩ := h2; exact Heap.lt_size e2
      rw [upd_ne (Nat.ne_of_lt hlt)]
      exact (hf c hcm).1
  done := by
    intro X hP hw hK hc i pins s σ H E I hf st hg
    subst hP hw hK
    obtain ⟨hz, hTI, ⟨x0, y0, hTO⟩, h1, h2⟩ := st
    obtain ⟨xs, ys, hqx, hqy, hend1, hend2⟩ := hg
    obtain ⟨its, rv, p, _⟩ := I.list hqx
    obtain ⟨its2, rv2, p2, _⟩ := I.list hqy
    have l1 := rv.length
    have l2 := rv2.length
    exact pyNext_zipSL_end (I.ok.hd hc) D hz hTI hTO h1 h2 p.isList p2.isList (by simp; omega) (by simp; omega) fun h' tk hk => ⟨rfl, I.turnedL (t' := tk) (ch := [z, TI, TO, i1, i2]) (fun c o hb q =>
      hk c o (fun q' => hb (by simp [q'])) (fun q' => hb (by simp [q'])) (fun q' => hb (by simp [q'])) (fun q' => hb (by simp [q'])) q) hf⟩
  self := fun A i s Q E st h => iter_zipS st.1 h

theorem callWith_typeKw {M : Model} {A : Around} {E : Value → Shared → Prop} {s : Shared} {pos : Pos} {T : String} {first : List Value} {args : List (Bool × Sem Value)} {keywords : List (Option Str × Sem Value)} {Q : Value → Shared → Prop}
    (hplain : args.any (·.1) = false) (hkw : keywords.any (·.1.isNone) = false)
    (h : wpAny M A (evalArgs (.type T) true args keywords) (fun a s₁ => wpAny M A (call (.type T) (first ++ a.pos) a.kw) Q E s₁) E s) :
    wpAny M A (callWith pos (.type T) first args keywords) Q E s := by
  unfold callWith
  refine wpAny_bind (wpAny_holding (wpAny_mono h (fun a s₁ h₁ => wpAny_bind (wpAny_standAt ?_)) fun _ _ x => x))
  simp only [hplain, hkw, Bool.or_false]
  refine wpAny_bind (wpAny_pure ?_)
  exact wpAny_bind (wpAny_mono h₁ (fun r s₂ hr => wpAny_bind (wpAny_holding (wpAny_point (wpAny_pure hr)))) fun _ _ x => x)
def iZipS (K : PySem.W.Frag) (ta tk : TA) : TI := fun σ H R => ta σ H fun vs H1 => tk σ H1 fun zs H2 => ∃ a b xs ys, vs = [.ref a, .ref b] ∧ zs = [.bl true] ∧ ((SqL K H2 a xs ∧ SqL K H2 b ys ∧ R (IzsL K a b) H2) ∨ (SqT K H2 a xs ∧ SqT K H2 b ys ∧ R (IzsT K a b) H2))
theorem pi_zipS {X : Cx} {e e2 : Expr} {ta tk : TA} {p pos tpos : Pos} {elts : List Expr} {kk : Nat} {kws : List Keyword} (hg : Gl X "zip") (hm : X.mg "zip" = none) (ha : PA X [e, e2] ta) (hk : PK X kws tk)
    (he : backTo pos (starEach [e, e2] X.env) = (false, eval e X.env) :: backTo pos (starEach [e2] X.env)) (hpl : (backTo pos (starEach [e, e2] X.env)).any (·.1) = false)
    (hall : (backToKw pos (keywordEach kws X.env)).all (·.1.isSome) = true) (hnone : (backToKw pos (keywordEach kws X.env)).any (·.1.isNone) = false) (hks : (backToKw pos (keywordEach kws X.env)).filterMap (·.1) = [Str.ofString "strict"]) :
    PI X (.Tuple elts kk tpos) (.Call (.Name "zip" p) [e, e2] kws pos) (iZipS X.K ta tk) := by
  refine ⟨fun pins s σ H R I h => ?_⟩
  refine wpAny_Call_Name_kw (ld_blt I hg hm PyProof.Rows.boot_zip (callWith_typeKw hpl hnone ?_))
  rw [he]
  refine evalArgs_kwB hall ?_
  rw [← he]
  refine thn (ha.run pos pins s σ H _ I h) fun us s1 ⟨vs, H1, I1, r1, q1⟩ => thn (hk.run pos pins s1 σ H1 _ I1 q1) fun ws s2 ⟨zs, H2, I2, r2, q2⟩ => ?_
  rw [hks]
  obtain ⟨a, b, xs, ys, ex, ez, q⟩ := q2
  subst ex ez
  cases r1 with
  | cons r rr =>
    cases rr with
    | cons r' rr =>
      cases rr
      cases r
      cases r'
      cases r2 with
      | cons t tt =>
        cases tt
        cases t
        have fresh5 : ∀ c, c ∈ [s2.heap.objs.size + 4, s2.heap.objs.size + 2, s2.heap.objs.size + 3, s2.heap.objs.size, s2.heap.objs.size + 1] → FpOk X pins H2 c := fun c hcm => by
          have e' : c = s2.heap.objs.size + 4 ∨ c = s2.heap.objs.size + 2 ∨ c = s2.heap.objs.size + 3 ∨ c = s2.heap.objs.size ∨ c = s2.heap.objs.size + 1 := by simpa using hcm
          have hle : s2.heap.objs.size ≤ c := by
            rcases e' with z | z | z | z | z
            · rw [z]; exact Nat.le_add_right _ _
            · rw [z]; exact Nat.le_add_right _ _
            · rw [z]; exact Nat.le_add_right _ _
            · rw [z]; exact Nat.le_refl _
            · rw [z]; exact Nat.le_add_right _ _
          exact I2.fpOk hle (I2.hok.fresh hle)
        show wpAny (model X.prog X.w) X.A (call (.type "zip") [.ref a, .ref b] [(Str.ofString "strict", .bool true)]) _ _ _
        rcases q with ⟨hqx, hqy, q⟩ | ⟨hqx, hqy, q⟩
        · obtain ⟨its, rv, p1, _⟩ := I2.list hqx
          obtain ⟨its2, rv2, p2, _⟩ := I2.list hqy
          refine call_zipSL p1.isList p2.isList fun h' hz hTI hTO h1 h2 hsz hk' => iter_zipS hz ?_
          have I3 : Inv X pins σ H2 { s2 with heap := h' } := I2.kept (t' := s2.toks) hk'
          exact ⟨s2.heap.objs.size + 4, [s2.heap.objs.size + 4, s2.heap.objs.size + 2, s2.heap.objs.size + 3, s2.heap.objs.size, s2.heap.objs.size + 1], _, _, H2, rfl, I3, turn_zipSL (PySem.W.ktu_apart s2.heap.objs.size a b p1.lt p2.lt), ⟨hz, hTI, ⟨_, _, hTO⟩, h1, h2⟩, fresh5, q⟩
        · obtain ⟨its, rv, p1, _⟩ := I2.tuple hqx
          obtain ⟨its2, rv2, p2, _⟩ := I2.tuple hqy
          obtain ⟨o1, ho1, _⟩ := id p1
          obtain ⟨o2, ho2, _⟩ := id p2
          refine call_zipST (show s2.heap.IsTuple a its.toArray from p1) (show s2.heap.IsTuple b its2.toArray from p2) fun h' hz hTI hTO h1 h2 hsz hk' => iter_zipS hz ?_
          have I3 : Inv X pins σ H2 { s2 with heap := h' } := I2.kept (t' := s2.toks) hk'
          exact ⟨s2.heap.objs.size + 4, [s2.heap.objs.size + 4, s2.heap.objs.size + 2, s2.heap.objs.size + 3, s2.heap.objs.size, s2.heap.objs.size + 1], _, _, H2, rfl, I3, turn_zipST (PySem.W.ktu_apart s2.heap.objs.size a b (Heap.lt_size ho1) (Heap.lt_size ho2)), ⟨hz, hTI, ⟨_, _, hTO⟩, h1, h2⟩, fresh5, q⟩
end Pv

/-! PvA: the pure interpreter (value semantics) over PyData, on a compact form of the program. -/
namespace Pv
open PySem

abbrev D := PyData

/-- a local's slot: nothing, a value that is shared, a container of one's own (m levels deep) -/
inductive Sl where
  | no
  | sh (d : D)
  | ow (m : Nat) (d : D)
  deriving Inhabited
abbrev En := List Sl

/-- raised: the class by number, its field's value -/
structure Xn where
  c : Nat
  f : Option D

inductive R (α : Type) where
  | ok (a : α) (e : En)
  | ex (x : Xn) (e : En)
  | bad
abbrev M (α : Type) := En → R α
@[reducible] def M.ret {α : Type} (a : α) : M α := fun e => .ok a e
def R.bind {α β : Type} (r : R α) (k : α → M β) : R β := match r with
  | .ok a e => k a e
  | .ex x e => .ex x e
  | .bad => .bad
@[reducible] def M.bind {α β : Type} (m : M α) (k : α → M β) : M β := fun e => (m e).bind k
instance : Monad M where
  pure := M.ret
  bind := M.bind
/-- an answer, or out of the semantics -/
def ofO {α : Type} (o : Option α) : M α := fun e => match o with
  | some a => .ok a e
  | none => .bad

/-- what a call of a def comes to: its value (own m levels deep), its arguments' slots behind it -/
inductive CR where
  | ok (m : Nat) (d : D) (o : En)
  | ex (x : Xn) (o : En)
  | bad

/-- an argument's value: a shared one, or the own container in a slot -/
inductive AV where
  | val (d : D)
  | own (i : Nat)

/-- keys by lambda: row[0]; (one[0], 0 - one[1]) -/
inductive Ky where
  | at0 | nw
  deriving DecidableEq
/-- built-in functions -/
inductive Bf where
  | len | abs | max2 | min2 | int1 | str1 | repr1 | tuple1 | list1 | bool1
  | sorted1 | sortedR | sum1 | all1 | any1 | max1 | min1 | isinst (ts : List String) | divmod2 | sortedSet | max3 | min3 | sumS | maxD | minD | dict1 | lenSet | listRange | srtK (k : Ky)
  deriving DecidableEq
/-- methods of built-in kinds that change nothing -/
inductive Me where
  | join | zfill | startswith | endswith | partition | rpartition | split1 | upper | get1 | get2 | values | items | keys | index | count
  deriving DecidableEq
/-- methods that change their list -/
inductive Mm where
  | extend | reverse | clear | insert
  deriving DecidableEq

/-- how a def's parameter is filled: by a written argument, by its default -/
inductive Sr where
  | ar (j : Nat)
  | df (d : D)

mutual
inductive Tg where
  | nm (i : Nat)
  | tp (ts : Tgs)
inductive Tgs where
  | nil
  | cons (t : Tg) (ts : Tgs)
end

mutual
inductive Ex where
  | lit (d : D)
  | var (i : Nat)
  | own (i : Nat)
  | frz (i : Nat)
  | glb (g : Nat)
  | kidx (g : Nat) (a : Ex)
  | kin (neg : Bool) (g : Nat) (a : Ex)
  | kget (g : Nat) (a : Ex)
  | bin (op : Operator) (a b : Ex)
  | neg (a : Ex)
  | not_ (a : Ex)
  | bo (op : BoolOp) (as : Exs)
  | cmp (op : CmpOp) (a b : Ex)
  | cmp2 (op op' : CmpOp) (a b c : Ex)
  | ife (c a b : Ex)
  | tup (as : Exs)
  | lst (as : Exs)
  | idx (a b : Ex)
  | slc (a : Ex) (lo hi : Oe)
  | rev (a : Ex)
  | by2 (a : Ex)
  | bi (f : Bf) (as : Exs)
  | me (m : Me) (a : Ex) (as : Exs)
  | call (f k : Nat) (as ks : Exs) (src : List Sr)
  | comp (ow : List Nat) (it : It) (tg : Tg) (cs : Exs) (el : Ex)
  | pop (i : Nat) (a : Oe)
  | bad
  | dget (a k : Ex)
  | dget2 (a k d : Ex)
  | dct (kvs : Exs)
  | compO (i : Nat) (ow : List Nat) (tg : Tg) (cs : Exs) (el : Ex)
inductive Exs where
  | nil
  | cons (a : Ex) (as : Exs)
inductive Oe where
  | no
  | so (a : Ex)
inductive It where
  | seq (a : Ex)
  | rng1 (a : Ex)
  | rng2 (a b : Ex)
  | enum (a : Ex)
  | zip2 (a b : Ex)
  | dkeys (a : Ex)
  | rev (a : Ex)
  | zipS (a b : Ex)
end

mutual
inductive St where
  | asg (m i : Nat) (e : Ex)
  | unp (ts : Tgs) (e : Ex)
  | aug (op : Operator) (i : Nat) (e : Ex)
  | sto (m i : Nat) (k e : Ex)
  | sto2 (i : Nat) (k1 k2 e : Ex)
  | app (m i : Nat) (e : Ex)
  | app2 (i : Nat) (k e : Ex)
  | sdapp (i : Nat) (k e : Ex)
  | mc (i : Nat) (m : Mm) (as : Exs)
  | frz (i : Nat)
  | exp (e : Ex)
  | ret (m : Nat) (e : Ex)
  | reto (i : Nat)
  | retn
  | ite (c : Ex) (a b : Sts)
  | for_ (it : It) (tg : Tg) (b : Sts)
  | whl (c : Ex) (b : Sts)
  | brk | cnt | pas
  | bad
  | par (is : List Nat) (as : Exs)
  | tryN (b : Sts)
inductive Sts where
  | nil
  | cons (s : St) (ss : Sts)
end

/-- the flow behind a statement -/
inductive Fl where
  | nx
  | rt (m : Nat) (d : D)
  | bk
  | ct

/-! ### data -/
mutual
/-- no list, no dict anywhere -/
def immut : D → Bool
  | .none | .bool _ | .int _ | .str _ => true
  | .tuple xs => immutAll xs
  | .list _ | .dict _ => false
def immutAll : List D → Bool
  | [] => true
  | x :: xs => immut x && immutAll xs
end

abbrev tt : D := .bool true
abbrev ff : D := .bool false
def sline : Nat := 16777216

/-- an index into n items -/
abbrev ixN : Nat → Int → Option Nat := L2.ixN
abbrev atI {α : Type} : List α → Int → Option α := L2.atI
/-- a slice's items -/
def cut {α : Type} (xs : List α) (lo hi : Option Int) : List α := (xs.drop (HT.sIx xs.length 0 lo)).take (HT.sIx xs.length xs.length hi - HT.sIx xs.length 0 lo)

/-- the order of Python's < on whole numbers, texts, tuples and lists of such; none where they can't be compared -/
def cmpStr (x y : Str) : Ordering := if x.cps.toList < y.cps.toList then .lt else if y.cps.toList < x.cps.toList then .gt else .eq
def cmpD : D → D → Option Ordering
  | .int i, .int j => some (if i < j then .lt else if j < i then .gt else .eq)
  | .str x, .str y => some (cmpStr x y)
  | _, _ => none

def toInts : List D → Option (List Int)
  | [] => some []
  | .int i :: r => (toInts r).map (i :: ·)
  | _ => none
def toBools : List D → Option (List Bool)
  | [] => some []
  | .bool b :: r => (toBools r).map (b :: ·)
  | _ => none
def toStrs : List D → Option (List Str)
  | [] => some []
  | .str x :: r => (toStrs r).map (x :: ·)
  | _ => none

def mulOk (i j : Int) : Bool := decide (i.natAbs < 2 ^ 64) || decide (j.natAbs < 2 ^ 64)

def binD : Operator → D → D → Option D
  | .Add, .int i, .int j => some (.int (i + j))
  | .Add, .str x, .str y => if x.length + y.length ≤ sline then some (.str (x ++ y)) else none
  | .Add, .list xs, .list ys => if xs.length + ys.length ≤ sline then some (.list (xs ++ ys)) else none
  | .Add, .tuple xs, .tuple ys => if xs.length + ys.length ≤ sline then some (.tuple (xs ++ ys)) else none
  | .Sub, .int i, .int j => some (.int (i - j))
  | .Mult, .str x, .int n => if -1000 ≤ n ∧ n ≤ 1000 ∧ x.length ≤ 10000 then some (.str (mulS x n)) else none
  | .Mult, .list xs, .int n => if -1000 ≤ n ∧ n ≤ 1000 ∧ xs.length ≤ 10000 then some (.list (List.replicate n.toNat xs).flatten) else none
  | .Mult, .tuple xs, .int n => if xs ≠ [] ∧ 1 ≤ n ∧ n ≤ 1000 ∧ xs.length ≤ 1000 then some (.tuple (List.replicate n.toNat xs).flatten) else none
  | .Mult, .int i, .int j => if mulOk i j then some (.int (i * j)) else none
  | .FloorDiv, .int i, .int j => if j ≠ 0 ∧ j.natAbs < 1073741824 then some (.int (i.fdiv j)) else none
  | .Mod, .int i, .int j => if j ≠ 0 then some (.int (i.fmod j)) else none
  | .Pow, .int i, .int j => if (0 ≤ j ∧ j ≤ 1000000 ∧ i.natAbs < 2 ^ 64) ∨ (0 ≤ j ∧ j ≤ 100 ∧ i.natAbs < 2 ^ 200) then some (.int (i ^ j.toNat)) else none
  | _, _, _ => none

/-- what == can be asked of -/
def eqOk (d : D) : Bool := PyData.plain d && decide (d.depth ≤ 64)

def isNone : D → Bool
  | .none => true
  | _ => false
def cmpOpD : CmpOp → D → D → Option Bool
  | .Eq, a, b => if eqOk a && eqOk b then some (PyData.eqv a b) else none
  | .NotEq, a, b => if eqOk a && eqOk b then some (!PyData.eqv a b) else none
  | .Lt, a, b => (cmpD a b).map (· == .lt)
  | .LtE, a, b => (cmpD a b).map (· != .gt)
  | .Gt, a, b => (cmpD a b).map (· == .gt)
  | .GtE, a, b => (cmpD a b).map (· != .lt)
  | .Is, a, .none => some (isNone a)
  | .IsNot, a, .none => some (!isNone a)
  | .Is, .bool a, .bool b => some (decide (a = b))
  | .IsNot, .bool a, .bool b => some (!decide (a = b))
  | .In, .str x, .str z => if x.length = 1 then some (decide (x.cps.getD 0 0 ∈ z.cps.toList)) else none
  | .NotIn, .str x, .str z => if x.length = 1 then some (!decide (x.cps.getD 0 0 ∈ z.cps.toList)) else none
  | .In, a, .list xs => if eqOk a && eqOk (.list xs) then some (xs.any fun z => PyData.eqv z a) else none
  | .NotIn, a, .list xs => if eqOk a && eqOk (.list xs) then some (!xs.any fun z => PyData.eqv z a) else none
  | .In, a, .tuple xs => if eqOk a && eqOk (.tuple xs) then some (xs.any fun z => PyData.eqv z a) else none
  | .NotIn, a, .tuple xs => if eqOk a && eqOk (.tuple xs) then some (!xs.any fun z => PyData.eqv z a) else none
  | _, _, _ => none

def keyOk : D → Bool
  | .int _ | .str _ => true
  | _ => false
def lookD (k : D) : List (D × D) → Option D
  | [] => none
  | (a, v) :: r => if PyData.eqv a k then some v else lookD k r

def idxD : D → D → Option D
  | .dict kvs, k => if keyOk k then lookD k kvs else none
  | .list xs, .int i => atI xs i
  | .tuple xs, .int i => atI xs i
  | .str x, .int i => if x.length ≤ sline then (atI x.cps.toList i).map fun c => .str ⟨#[c]⟩ else none
  | _, _ => none

def slcD (d : D) (lo hi : Option Int) : Option D :=
  match d with
    | .list xs => some (.list (cut xs lo hi))
    | .tuple xs => some (.tuple (cut xs lo hi))
    | .str x => if x.length ≤ sline then some (.str (L2.cutS x lo hi)) else none
    | _ => none
def by2D : D → Option D
  | .list [x, _, z] => some (.list [x, z])
  | _ => none
def revD : D → Option D
  | .list xs => some (.list xs.reverse)
  | .tuple xs => some (.tuple xs.reverse)
  | _ => none

def tyName : D → String
  | .none => "NoneType"
  | .bool _ => "bool"
  | .int _ => "int"
  | .str _ => "str"
  | .list _ => "list"
  | .tuple _ => "tuple"
  | .dict _ => "dict"
def tyIs (n T : String) : Bool := n == T || (n == "bool" && T == "int")
def isA (d : D) (T : String) : Bool := tyIs (tyName d) T

/-- numbers, rising, each once -/
def insI (k : Int) : List Int → List Int
  | [] => [k]
  | a :: l => if k < a then k :: a :: l else if k = a then a :: l else a :: insI k l
/-- numbers, rising -/
def insD (k : Int) : List Int → List Int
  | [] => [k]
  | a :: l => if k ≤ a then k :: a :: l else a :: insD k l
def sortD (ns : List Int) : List Int := ns.foldr insD []
def sortI (ns : List Int) : List Int := ns.foldr insI []
def minI (d : Int) : List Int → Int
  | [] => d
  | x :: xs => xs.foldl (fun a y => if y < a then y else a) x
def maxI (d : Int) : List Int → Int
  | [] => d
  | x :: xs => xs.foldl (fun a y => if a < y then y else a) x
/-- a displayed dict: keys, values in turn -/
def mrgD (k v : D) (kvs : List (D × D)) : List (D × D) :=
  if (kvs.any fun kv => PyData.eqv kv.1 k) = true then kvs.map (fun kv => if PyData.eqv kv.1 k = true then (kv.1, v) else kv) else kvs ++ [(k, v)]
def pairU : List D → Option (List (D × D))
  | [] => some []
  | k :: v :: r => if keyOk k then (pairU r).map ((k, v) :: ·) else none
  | _ => none
def dctD (ds : List D) : Option D := (pairU ds).bind fun ps => if ps.length ≤ 15 then some (.dict (ps.foldl (fun m p => mrgD p.1 p.2 m) [])) else none
/-- pairs, as a list of tuples -/
def pairT : List D → Option (List (D × D))
  | [] => some []
  | .tuple [k, v] :: r => if keyOk k then (pairT r).map ((k, v) :: ·) else none
  | _ => none
def kyD : Ky → D → D
  | .at0, .tuple (.int i :: _) => .int i
  | .nw, .tuple [.int i, .int j] => .tuple [.int i, .int (0 - j)]
  | _, _ => .none
def kyOk : Ky → D → Bool
  | .at0, .tuple (.int _ :: _) => true
  | .nw, .tuple [.int _, .int _] => true
  | _, _ => false
def srtKD (k : Ky) (xs : List D) : Option D := if xs.all (kyOk k) then some (.list (xs.mergeSort (PySem.W.dataLe false (kyD k)))) else none
/-- tuples that can be put in order -/
def srtOk (xs : List D) : Bool := xs.all fun d => (match d with | .tuple (_ :: _) => true | _ => false) && decide (d.depth ≤ 60) && xs.all (PySem.W.alike d)
def srtTD (rev : Bool) (xs : List D) : Option D := if srtOk xs then some (.list (xs.mergeSort (PySem.W.dataLe rev fun d => d))) else none
def srtD (xs : List D) : Option D := match toInts xs with
  | some is => some (.list ((sortD is).map .int))
  | none => srtTD false xs
def biD : Bf → List D → Option D
  | .sorted1, [.list xs] => srtD xs
  | .sortedR, [.list xs] => srtTD true xs
  | .srtK k, [.list xs] => srtKD k xs
  | .minD, [.list xs, .int d] => (toInts xs).map fun is => .int (minI d is)
  | .maxD, [.list xs, .int d] => (toInts xs).map fun is => .int (maxI d is)
  | .sortedSet, [.list xs] => (toInts xs).bind fun is => if is.length < 4000 then some (.list ((sortI is).map .int)) else none
  | .len, [.list xs] => some (.int xs.length)
  | .len, [.tuple xs] => some (.int xs.length)
  | .len, [.str x] => if x.length ≤ sline then some (.int x.length) else none
  | .abs, [.int i] => some (.int (if i < 0 then -i else i))
  | .max2, [.int i, .int j] => some (.int (if j > i then j else i))
  | .min2, [.int i, .int j] => some (.int (if j < i then j else i))
  | .int1, [.bool b] => some (.int (if b then 1 else 0))
  | .int1, [.int i] => some (.int i)
  | .repr1, [d] => if d.showable && decide (d.shown.length ≤ sline) && decide (d.depth ≤ 60) then some (.str d.shown) else none
  | .tuple1, [.list xs] => some (.tuple xs)
  | .tuple1, [.tuple xs] => some (.tuple xs)
  | .list1, [.list xs] => some (.list xs)
  | .list1, [.tuple xs] => some (.list xs)
  | .isinst ts, [d] => some (.bool (ts.any (isA d)))
  | .all1, [.list xs] => (toBools xs).map fun bs => .bool (bs.all id)
  | .any1, [.list xs] => (toBools xs).map fun bs => .bool (bs.any id)
  | .sum1, [.list xs] => (toInts xs).map fun is => .int is.sum
  | .max1, [.list xs] => (toInts xs).bind fun is => match is with | [] => none | a :: r => some (.int (maxI a (a :: r)))
  | .min1, [.list xs] => (toInts xs).bind fun is => match is with | [] => none | a :: r => some (.int (minI a (a :: r)))
  | .max3, [.int i, .int j, .int k] => some (.int (if (if i < j then j else i) < k then k else (if i < j then j else i)))
  | .min3, [.int i, .int j, .int k] => some (.int (if k < (if j < i then j else i) then k else (if j < i then j else i)))
  | .divmod2, [.int i, .int j] => if 0 < j ∧ j < 1073741824 then some (.tuple [.int (i / j), .int (i % j)]) else none
  | .str1, [.str x] => some (.str x)
  | .dict1, [.list xs] => (pairT xs).bind fun ps => some (.dict (ps.foldl (fun m p => mrgD p.1 p.2 m) []))
  | .listRange, [.int j] => if -16777216 ≤ j ∧ j ≤ 16777216 then some (.list ((List.range j.toNat).map fun (k : Nat) => .int (k : Int))) else none
  | .listRange, [.int i, .int j] => if -8000000 ≤ i ∧ i ≤ 8000000 ∧ -8000000 ≤ j ∧ j ≤ 8000000 then some (.list ((List.range (j - i).toNat).map fun (k : Nat) => .int (i + (k : Int)))) else none
  | .lenSet, [.list xs] => (toInts xs).bind fun is => if is.Nodup ∧ is.length ≤ 4000 then some (.int is.length) else none
  | .str1, [.int i] => if i.natAbs.log2 < 1920 then some (.str (toString i)) else none
  | _, _ => none

def joinLen (sep : Str) (ys : List Str) : Nat := (ys.map (·.length)).sum + ys.length * sep.length
/-- what a method is a method of -/
def meT : Me → D → Bool
  | .join, .str _ => true
  | .zfill, .str _ => true
  | _, _ => false
def meD : Me → D → List D → Option D
  | .zfill, .str x, [.int i] => if 0 ≤ i ∧ i ≤ 1000 then some (.str (Txt.zfill x i)) else none
  | .join, .str sep, [.list xs] => (toStrs xs).bind fun ss => if joinLen sep ss ≤ sline then some (.str (Txt.join sep ss)) else none
  | _, _, _ => none

/-- which answers of built-ins are new lists -/
def freshBi : Bf → Bool
  | .list1 | .sorted1 | .sortedR | .sortedSet | .listRange => true
  | .srtK _ => true
  | _ => false
/-- which answers share nothing with their arguments' roots -/
def rootBi : Bf → Bool
  | .tuple1 => true
  | .divmod2 => true
  | f => freshBi f

/-! ### slots -/
def rdS (i : Nat) : M D := fun e => match e[i]? with
  | some (.sh d) => .ok d e
  | _ => .bad
def rdO (i : Nat) : M (Nat × D) := fun e => match e[i]? with
  | some (.ow m d) => .ok (m, d) e
  | _ => .bad
def wr (i : Nat) (s : Sl) : M Unit := fun e => .ok () (e.set i s)
/-- an argument's data now -/
def resE (e : En) : AV → Option D
  | .val d => some d
  | .own i => (match e[i]? with
    | some (.ow _ d) => some d
    | _ => none)
def resAll (e : En) : List AV → Option (List D)
  | [] => some []
  | a :: r => match resE e a, resAll e r with
    | some d, some ds => some (d :: ds)
    | _, _ => none
def isOwn : AV → Bool
  | .own _ => true
  | _ => false
def isOwn2 (e : En) : AV → Bool
  | .own i => (match e[i]? with
    | some (.ow m _) => m != 1
    | _ => true)
  | .val _ => false
/-- an operation on arguments: where one's own containers are among them, the answer shares nothing with their roots
(fresh: it never does, with a container whose items are shared) -/
def opM (as : List AV) (fresh : Bool) (f : List D → Option D) : M D := fun e => match resAll e as with
  | some ds => (match f ds with
    | some d => if !as.any isOwn || immut d || (fresh && !as.any (isOwn2 e)) then .ok d e else .bad
    | none => .bad)
  | none => .bad
def valM : AV → M D
  | .val d => M.ret d
  | .own _ => fun _ => .bad
def valsM : List AV → M (List D)
  | [] => M.ret []
  | a :: r => do let d ← valM a; let ds ← valsM r; M.ret (d :: ds)

def bindT : Tg → D → M Unit
  | .nm i, d => wr i (.sh d)
  | .tp ts, .tuple ds => bindTs ts ds
  | .tp ts, .list ds => bindTs ts ds
  | .tp _, _ => fun _ => .bad
where bindTs : Tgs → List D → M Unit
  | .nil, [] => M.ret ()
  | .cons t ts, d :: ds => do bindT t d; bindTs ts ds
  | _, _ => fun _ => .bad

def wipe (vs : List Nat) (e : En) : En := vs.foldr (fun v e => e.set v .no) e
def shOf : Option Sl → Sl
  | some (.sh d) => .sh d
  | _ => .no
def putBack (vs : List Nat) (old e : En) : En := vs.foldr (fun v e => e.set v (shOf old[v]?)) e

/-- a comprehension's turns: body gives an item or none -/
def compL (vs : List Nat) (body : D → M (Option D)) : List D → M (List D)
  | [] => M.ret []
  | x :: xs => fun e => match body x e with
    | .ok o e1 => (match compL vs body xs (wipe vs e1) with
      | .ok ds e2 => .ok (o.toList ++ ds) e2
      | _ => .bad)
    | _ => .bad

def rangeL (lo hi : Int) : Option (List D) :=
  if -(2 ^ 62) ≤ lo ∧ lo < 2 ^ 62 ∧ -(2 ^ 62) ≤ hi ∧ hi < 2 ^ 62 then some ((List.range (hi - lo).toNat).map fun (k : Nat) => .int (lo + (k : Int))) else none
def seqL : D → Option (List D)
  | .list xs => some xs
  | .tuple xs => some xs
  | .str x => some (x.cps.toList.map fun c => .str ⟨#[c]⟩)
  | _ => none
def enumL (d : D) : Option (List D) := match d with
  | .list xs => some (xs.zipIdx.map fun p => .tuple [.int p.2, p.1])
  | .tuple xs => some (xs.zipIdx.map fun p => .tuple [.int p.2, p.1])
  | _ => none
def zipL (a b : D) : Option (List D) := match seqL a, seqL b with
  | some xs, some ys => some ((xs.zip ys).map fun p => .tuple [p.1, p.2])
  | _, _ => none
def revL : D → Option (List D)
  | .list xs => some xs.reverse
  | .tuple xs => some xs.reverse
  | _ => none
/-- zip of two lists, of two tuples -/
def zipK : D → D → Option (List D)
  | .list xs, .list ys => zipL (.list xs) (.list ys)
  | .tuple xs, .tuple ys => zipL (.tuple xs) (.tuple ys)
  | _, _ => none
def zipKS : D → D → Option (List D)
  | .list xs, .list ys => if xs.length = ys.length then zipL (.list xs) (.list ys) else none
  | .tuple xs, .tuple ys => if xs.length = ys.length then zipL (.tuple xs) (.tuple ys) else none
  | _, _ => none
def keysL : D → Option (List D)
  | .dict kvs => some (kvs.map (·.1))
  | _ => none

/-- what a program's text gives: its constants, its while's turns at most, its calls -/
structure Cn where
  G : List D
  W : Nat
  C : Nat → En → CR

/-- an argument as a slot -/
def slotOf (e : En) : AV → Option Sl
  | .val d => some (.sh d)
  | .own i => (match e[i]? with
    | some (.ow m d) => some (.ow m d)
    | _ => none)
/-- the parameters' slots -/
def fillS (e : En) (as : List AV) : List Sr → Option En
  | [] => some []
  | .ar j :: r => (match as[j]? with
    | some a => (match slotOf e a, fillS e as r with
      | some s, some l => some (s :: l)
      | _, _ => none)
    | none => none)
  | .df d :: r => (match fillS e as r with
    | some l => some (.sh d :: l)
    | none => none)
/-- which of the caller's slots each parameter is -/
def ownSl (as : List AV) : List Sr → List (Option Nat)
  | [] => []
  | .ar j :: r => (match as[j]? with
    | some (.own i) => some i
    | _ => none) :: ownSl as r
  | .df _ :: r => none :: ownSl as r
/-- the changed ones put back -/
def backS : List (Option Nat) → En → En → En
  | some i :: r, s :: o, e => backS r o (e.set i s)
  | none :: r, _ :: o, e => backS r o e
  | _, _, e => e
def callM (cn : Cn) (f : Nat) (as : List AV) (src : List Sr) : M (Nat × D) := fun e =>
  if ((ownSl as src).filterMap id).Nodup then (match fillS e as src with
    | none => .bad
    | some ea => match cn.C f ea with
      | .ok m d o => .ok (m, d) (backS (ownSl as src) o e)
      | .ex x o => .ex x (backS (ownSl as src) o e)
      | .bad => .bad) else .bad

def boolM : D → M Bool
  | .bool b => M.ret b
  | _ => fun _ => .bad

def cmpF (op : CmpOp) (a b : D) : Option D := (cmpOpD op a b).map .bool
def f1 (f : D → Option D) : List D → Option D
  | [p] => f p
  | _ => none
def f2 (f : D → D → Option D) : List D → Option D
  | [p, q] => f p q
  | _ => none
def fm (f : D → List D → Option D) : List D → Option D
  | p :: r => f p r
  | _ => none
def negD : D → Option D
  | .int i => some (.int (-i))
  | _ => none

/-- a test: True or False -/
def tstM (m : M AV) : M Bool := do let x ← m; let d ← valM x; boolM d
def boolV (m : M Bool) : M AV := do let b ← m; M.ret (.val (.bool b))
def cmpM (op : CmpOp) (a b : M AV) : M Bool := do
    let x ← a
    let y ← b
    let d ← opM [x, y] false (f2 (cmpF op))
    boolM d
def cmp2M (op op' : CmpOp) (a b c : M AV) : M Bool := do
    let x ← a
    let p ← valM x
    let y ← b
    let q ← valM y
    let r ← ofO (cmpOpD op p q)
    if r then (do let z ← c; let w ← valM z; ofO (cmpOpD op' q w)) else M.ret false
def compM (vs : List Nat) (items : List D) (tg : Tg) (conds : M Bool) (el : M AV) : M D := fun e =>
  if sline < items.length then .bad else match compL vs (fun x => do
        bindT tg x
        let b ← conds
        if b then (do let y ← el; let d ← valM y; M.ret (some d)) else M.ret none) items (wipe vs e) with
      | .ok ds e' => .ok (.list ds) (putBack vs e e')
      | _ => .bad
/-- a comprehension over a list of one's own, which is nobody's till it ends -/
def compOM (i : Nat) (vs : List Nat) (tg : Tg) (conds : M Bool) (el : M AV) : M D := fun e => match e[i]? with
  | some (.ow 1 (.list ds)) => (match compM vs ds tg conds el (e.set i .no) with
    | .ok d e' => .ok d (e'.set i (.ow 1 (.list ds)))
    | _ => .bad)
  | _ => .bad
def intM : D → M Int
  | .int i => M.ret i
  | _ => fun _ => .bad
def popM (i : Nat) (k : Option Int) : M D := do
    let p ← rdO i
    let xs ← ofO (match p with | (1, .list xs) => if xs.length ≤ sline then some xs else none | _ => none)
    let j ← ofO (match k with | none => (if xs.length = 0 then none else some (xs.length - 1)) | some k => ixN xs.length k)
    let d ← ofO xs[j]?
    wr i (.ow 1 (.list (xs.eraseIdx j)))
    M.ret d
def popV (i : Nat) (mk : M (Option Int)) : M AV := do
  let _ ← (fun e => match e[i]? with
    | some (.ow _ (.list _)) => .ok () e
    | _ => .bad : M Unit)
  let k ← mk
  let d ← popM i k
  M.ret (.val d)
def v1 (m : M D) : M AV := do let d ← m; M.ret (.val d)
def dispM (m : M (List AV)) (k : List D → D) : M AV := do
    let xs ← m
    let ds ← valsM xs
    let _ ← ofO (if ds.length ≤ sline then some () else none)
    M.ret (.val (k ds))
def kfind (z : Str) : List (D × D) → Option D
  | [] => none
  | (.str k, v) :: r => if k = z then some v else kfind z r
  | _ :: r => kfind z r
/-- what is asked of a module's dict -/
def kidxD : Option D → D → Option D
  | some (.dict kvs), .str z => kfind z kvs
  | _, _ => none
def kinD : Option D → D → Bool → Option D
  | some (.dict kvs), .str z, neg => some (.bool (if neg then !(kfind z kvs).isSome else (kfind z kvs).isSome))
  | _, _, _ => none
def kgetD : Option D → D → Option D
  | some (.dict kvs), .str z => some ((kfind z kvs).getD .none)
  | _, _ => none

/-- what is asked of a dict -/
def dget1D : D → D → Option D
  | .dict kvs, k => if (keyOk k || isNone k) = true then some ((lookD k kvs).getD .none) else none
  | _, _ => none
def dget2D : D → D → D → Option D
  | .dict kvs, k, z => if keyOk k then some ((lookD k kvs).getD z) else none
  | _, _, _ => none
def f3 (f : D → D → D → Option D) : List D → Option D
  | [p, q, r] => f p q r
  | _ => none
/-- it is a dict now -/
def dctM (a : AV) : M Unit := fun e => match resE e a with
  | some (.dict _) => .ok () e
  | _ => .bad
mutual
def ev (cn : Cn) : Ex → M AV
  | .lit d => M.ret (.val d)
  | .var i => v1 (rdS i)
  | .own i => do let _ ← rdO i; M.ret (.own i)
  | .frz i => do let p ← rdO i; wr i (.sh p.2); M.ret (.val p.2)
  | .glb g => v1 (ofO cn.G[g]?)
  | .kidx g a => do
    let x ← ev cn a
    let d ← valM x
    v1 (ofO (kidxD cn.G[g]? d))
  | .kin neg g a => do
    let x ← ev cn a
    let d ← valM x
    v1 (ofO (kinD cn.G[g]? d neg))
  | .kget g a => do
    let x ← ev cn a
    let d ← valM x
    v1 (ofO (kgetD cn.G[g]? d))
  | .bin op a b => do
    let x ← ev cn a
    let y ← ev cn b
    v1 (opM [x, y] (op == .Add) (f2 (binD op)))
  | .neg a => do
    let x ← ev cn a
    v1 (opM [x] false (f1 negD))
  | .not_ a => do let b ← tstM (ev cn a); M.ret (.val (.bool (!b)))
  | .bo op as => boolV (evB cn op as)
  | .cmp op a b => boolV (cmpM op (ev cn a) (ev cn b))
  | .cmp2 op op' a b c => boolV (cmp2M op op' (ev cn a) (ev cn b) (ev cn c))
  | .ife c a b => do
    let t ← tstM (ev cn c)
    if t then ev cn a else ev cn b
  | .tup as => dispM (evs cn as) .tuple
  | .lst as => dispM (evs cn as) .list
  | .idx a b => do
    let x ← ev cn a
    let y ← ev cn b
    v1 (opM [x, y] true (f2 idxD))
  | .slc a lo hi => do
    let x ← ev cn a
    let l ← evO cn lo
    let h ← evO cn hi
    v1 (opM [x] true (f1 fun p => slcD p l h))
  | .rev a => do
    let x ← ev cn a
    v1 (opM [x] true (f1 revD))
  | .by2 a => do
    let x ← ev cn a
    v1 (opM [x] true (f1 by2D))
  | .bi f as => do
    let xs ← evs cn as
    v1 (opM xs (rootBi f) (biD f))
  | .me m a as => do
    let x ← ev cn a
    let d ← valM x
    let _ ← ofO (if meT m d then some () else none)
    let xs ← evs cn as
    v1 (opM xs false (meD m d))
  | .call f _ as ks src => do
    let xs ← evs cn as
    let ys ← evs cn ks
    let p ← callM cn f (xs ++ ys) src
    M.ret (.val p.2)
  | .comp ow it tg cs el => do
    let items ← evI cn it
    v1 (compM ow items tg (evB cn .And cs) (ev cn el))
  | .pop i a => popV i (evO cn a)
  | .bad => fun _ => .bad
  | .dget a k => do
    let x ← ev cn a
    let _ ← dctM x
    let y ← ev cn k
    v1 (opM [x, y] true (f2 dget1D))
  | .dget2 a k z => do
    let x ← ev cn a
    let _ ← dctM x
    let y ← ev cn k
    let u ← ev cn z
    v1 (opM [x, y, u] false (f3 dget2D))
  | .dct as => do
    let xs ← evs cn as
    let ds ← valsM xs
    v1 (ofO (dctD ds))
  | .compO i ow tg cs el => v1 (compOM i ow tg (evB cn .And cs) (ev cn el))
def evB (cn : Cn) (op : BoolOp) : Exs → M Bool
  | .nil => M.ret (op == .And)
  | .cons a as => do
    let b ← tstM (ev cn a)
    if b == (op == .And) then evB cn op as else M.ret b
def evs (cn : Cn) : Exs → M (List AV)
  | .nil => M.ret []
  | .cons a as => do let x ← ev cn a; let xs ← evs cn as; M.ret (x :: xs)
def evO (cn : Cn) : Oe → M (Option Int)
  | .no => M.ret none
  | .so a => do let x ← ev cn a; let d ← valM x; let i ← intM d; M.ret (some i)
def evI (cn : Cn) : It → M (List D)
  | .seq a => do let x ← ev cn a; let d ← valM x; ofO (seqL d)
  | .rng1 a => do let x ← ev cn a; let d ← valM x; ofO (match d with | .int j => rangeL 0 j | _ => none)
  | .rng2 a b => do let x ← ev cn a; let d ← valM x; let y ← ev cn b; let d' ← valM y; ofO (match d, d' with | .int i, .int j => rangeL i j | _, _ => none)
  | .enum a => do let x ← ev cn a; let d ← valM x; ofO (enumL d)
  | .zip2 a b => do let x ← ev cn a; let d ← valM x; let y ← ev cn b; let d' ← valM y; ofO (zipK d d')
  | .dkeys a => do let x ← ev cn a; let d ← valM x; ofO (keysL d)
  | .rev a => do let x ← ev cn a; let d ← valM x; ofO (revL d)
  | .zipS a b => do let x ← ev cn a; let d ← valM x; let y ← ev cn b; let d' ← valM y; ofO (zipKS d d')
end

/-! ### what makes a container of one's own -/
def ownOf (m : Nat) (p : Nat × D) : M D := fun e => if p.1 = m then .ok p.2 e else .bad
mutual
/-- an expression whose value is a new container, own m levels deep -/
def evW (cn : Cn) : Nat → Ex → M D
  | 1, .lst as => do let xs ← evs cn as; let ds ← valsM xs; let _ ← ofO (if ds.length ≤ sline then some () else none); M.ret (.list ds)
  | m + 2, .lst as => do let ds ← evWs cn (m + 1) as; let _ ← ofO (if ds.length ≤ sline then some () else none); M.ret (.list ds)
  | 1, .slc a lo hi => do
    let x ← ev cn a
    let l ← evO cn lo
    let h ← evO cn hi
    let d ← opM [x] true (f1 fun p => slcD p l h)
    (match d with | .list _ => M.ret d | _ => fun _ => .bad)
  | 1, .rev a => do let x ← ev cn a; opM [x] true (f1 revD)
  | 1, .bi f as => do let xs ← evs cn as; if freshBi f then opM xs true (biD f) else fun _ => .bad
  | 1, .bin .Add a b => do
    let x ← ev cn a
    let y ← ev cn b
    let d ← opM [x, y] true (f2 (binD .Add))
    (match d with | .list _ => M.ret d | _ => fun _ => .bad)
  | 1, .comp ow it tg cs el => do
    let items ← evI cn it
    compM ow items tg (evB cn .And cs) (ev cn el)
  | m, .call f _ as ks src => do
    let xs ← evs cn as
    let ys ← evs cn ks
    let p ← callM cn f (xs ++ ys) src
    ownOf m p
  | m, .ife c a b => do
    let t ← tstM (ev cn c)
    if t then evW cn m a else evW cn m b
  | _, _ => fun _ => .bad
def evWs (cn : Cn) : Nat → Exs → M (List D)
  | _, .nil => M.ret []
  | m, .cons a as => do let d ← evW cn m a; let ds ← evWs cn m as; M.ret (d :: ds)
end

/-! ### statements -/
def updO (i : Nat) (f : Nat → D → Option D) : M Unit := do
  let p ← rdO i
  let d ← ofO (f p.1 p.2)
  wr i (.ow p.1 d)
def appF (m : Nat) (d : D) : Nat → D → Option D := fun k c => match c with
  | .list xs => if k = m + 1 ∧ xs.length < sline then some (.list (xs ++ [d])) else none
  | _ => none
def putD (k v : D) : List (D × D) → List (D × D)
  | [] => [(k, v)]
  | (a, w) :: r => if PyData.eqv a k then (a, v) :: r else (a, w) :: putD k v r
def stoF (m : Nat) (k d : D) : Nat → D → Option D := fun w c => match c with
  | .list xs => if w = m + 1 then (match k with | .int i => (ixN xs.length i).map fun j => .list (xs.set j d) | _ => none) else none
  | _ => none
def app2F (k d : D) : Nat → D → Option D := fun w c => match c, k with
  | .list xs, .int i => if w = 2 then (do
      let j ← ixN xs.length i
      let y ← xs[j]?
      match y with
      | .list ys => if ys.length < sline then some (.list (xs.set j (.list (ys ++ [d])))) else none
      | _ => none) else none
  | .dict kvs, k => if w = 2 then (do
      let y ← lookD k kvs
      match y with
      | .list ys => if ys.length < sline then some (.dict (putD k (.list (ys ++ [d])) kvs)) else none
      | _ => none) else none
  | _, _ => none
def sdF (k d : D) : Nat → D → Option D := fun w c => match c with
  | .dict kvs => if w = 2 ∧ keyOk k ∧ kvs.length < sline then (match lookD k kvs with
      | some (.list ys) => if ys.length < sline then some (.dict (putD k (.list (ys ++ [d])) kvs)) else none
      | some _ => none
      | none => some (.dict (kvs ++ [(k, .list [d])]))) else none
  | _ => none
def mmF (m : Mm) (as : List D) : Nat → D → Option D := fun w c => match m, c, as with
  | .reverse, .list xs, [] => if w = 1 then some (.list xs.reverse) else none
  | .clear, .list _, [] => if w = 1 then some (.list []) else none
  | _, _, _ => none

/-- a for's turns -/
def forL (tg : Tg) (body : M Fl) : List D → M Fl
  | [] => M.ret .nx
  | x :: xs => do
    bindT tg x
    let f ← body
    match f with
    | .nx | .ct => forL tg body xs
    | .bk => M.ret .nx
    | .rt m d => M.ret (.rt m d)
def whileL (c : M Bool) (body : M Fl) : Nat → M Fl
  | 0 => fun _ => .bad
  | n + 1 => do
    let b ← c
    if b then (do
      let f ← body
      match f with
      | .nx | .ct => whileL c body n
      | .bk => M.ret .nx
      | .rt m d => M.ret (.rt m d)) else M.ret .nx
def bindTs' (ts : Tgs) (d : D) : M Unit := bindT (.tp ts) d

/-! the statements' parts -/
def vM (m : M AV) : M D := do let x ← m; valM x
def asgM (i : Nat) (m : M D) : M Fl := do let d ← m; wr i (.sh d); M.ret .nx
def asgW (k i : Nat) (m : M D) : M Fl := do let d ← m; wr i (.ow k d); M.ret .nx
def unpM (ts : Tgs) (m : M D) : M Fl := do let d ← m; bindT (.tp ts) d; M.ret .nx
def augF (op : Operator) (a d : D) : Option D := match a, d with
  | .int _, .int _ => (match op with | .Add => binD op a d | .Sub => binD op a d | _ => none)
  | _, _ => none
def augM (op : Operator) (i : Nat) (m : M D) : M Fl := do
  let a ← rdS i
  let d ← m
  let r ← ofO (augF op a d)
  wr i (.sh r)
  M.ret .nx
def stoM (i : Nat) (m : Nat) (md : M D) (mk : M AV) : M Fl := do
  let d ← md
  let _ ← rdO i
  let q ← vM mk
  updO i (stoF m q d)
  M.ret .nx
/-- slot i is an own list -/
def rdL (i : Nat) : M Unit := fun e => match e[i]? with
  | some (.ow _ (.list _)) => .ok () e
  | _ => .bad
def appM (i m : Nat) (md : M D) : M Fl := do
  let _ ← rdL i
  let d ← md
  updO i (appF m d)
  M.ret .nx
def app2M (i : Nat) (g : D → D → Nat → D → Option D) (mk md : M AV) : M Fl := do
  let _ ← rdO i
  let q ← vM mk
  let d ← vM md
  updO i (g q d)
  M.ret .nx
def mcM (i : Nat) (m : Mm) : M Fl := do
  let _ ← rdL i
  updO i (mmF m [])
  M.ret .nx
def extF (d : D) : Nat → D → Option D := fun w c => match c, d with
  | .list xs, .list ys => if w = 1 ∧ xs.length + ys.length ≤ sline then some (.list (xs ++ ys)) else none
  | _, _ => none
/-- x.extend(a new list) -/
def extM (i : Nat) (md : M D) : M Fl := do
  let _ ← rdL i
  let d ← md
  updO i (extF d)
  M.ret .nx
def frzM (i : Nat) : M Fl := do let p ← rdO i; wr i (.sh p.2); M.ret .nx
def expM (m : M AV) : M Fl := do let _ ← m; M.ret .nx
def retM (k : Nat) (m : M D) : M Fl := do let d ← m; M.ret (.rt k d)
def retoM (i : Nat) : M Fl := do let p ← rdO i; wr i .no; M.ret (.rt p.1 p.2)
def iteM (c : M Bool) (a b : M Fl) : M Fl := do let t ← c; if t then a else b
def forM (mi : M (List D)) (tg : Tg) (b : M Fl) : M Fl := do let items ← mi; forL tg b items
/-- a, b = x, y by the names' own places -/
def parL : List Nat → List D → M Unit
  | [], [] => M.ret ()
  | i :: is, d :: ds => do wr i (.sh d); parL is ds
  | _, _ => fun _ => .bad
def parM (is : List Nat) (ms : M (List AV)) : M Fl := do let xs ← ms; let ds ← valsM xs; parL is ds; M.ret .nx
/-- a try whose handlers are never reached -/
def tryM (m : M Fl) : M Fl := fun e => match m e with
  | .ok f e' => .ok f e'
  | _ => .bad
def seqM (a b : M Fl) : M Fl := do
  let f ← a
  match f with
  | .nx => b
  | f => M.ret f
mutual
def ex (cn : Cn) : St → M Fl
  | .asg 0 i e => asgM i (vM (ev cn e))
  | .asg (m + 1) i e => asgW (m + 1) i (evW cn (m + 1) e)
  | .unp ts e => unpM ts (vM (ev cn e))
  | .aug op i e => augM op i (vM (ev cn e))
  | .sto 0 i k e => stoM i 0 (vM (ev cn e)) (ev cn k)
  | .sto (m + 1) i k e => stoM i (m + 1) (evW cn (m + 1) e) (ev cn k)
  | .sto2 _ _ _ _ => fun _ => .bad
  | .app 0 i e => appM i 0 (vM (ev cn e))
  | .app (m + 1) i e => appM i (m + 1) (evW cn (m + 1) e)
  | .app2 i k e => app2M i app2F (ev cn k) (ev cn e)
  | .sdapp i k e => app2M i sdF (ev cn k) (ev cn e)
  | .mc i .extend (.cons e .nil) => extM i (evW cn 1 e)
  | .mc i m .nil => mcM i m
  | .mc _ _ _ => fun _ => .bad
  | .frz i => frzM i
  | .exp e => expM (ev cn e)
  | .ret 0 e => retM 0 (vM (ev cn e))
  | .ret (m + 1) e => retM (m + 1) (evW cn (m + 1) e)
  | .reto i => retoM i
  | .retn => M.ret (.rt 0 .none)
  | .ite c a b => iteM (tstM (ev cn c)) (exs cn a) (exs cn b)
  | .for_ it tg b => forM (evI cn it) tg (exs cn b)
  | .whl c b => whileL (tstM (ev cn c)) (exs cn b) cn.W
  | .brk => M.ret .bk
  | .cnt => M.ret .ct
  | .pas => M.ret .nx
  | .bad => fun _ => .bad
  | .par is as => parM is (evs cn as)
  | .tryN b => tryM (exs cn b)
def exs (cn : Cn) : Sts → M Fl
  | .nil => M.ret .nx
  | .cons s ss => seqM (ex cn s) (exs cn ss)
end

/-- a def: how many names, its parameters (which are handed in to be changed, and how deep own), its body -/
structure Fd where
  n : Nat
  ps : List Nat
  body : Sts
/-- the arguments are of the parameters' modes -/
def modeOk : List Nat → En → Bool
  | [], [] => true
  | 0 :: ms, .sh _ :: e => modeOk ms e
  | (m + 1) :: ms, .ow w _ :: e => w == m + 1 && modeOk ms e
  | _, _ => false
/-- the arguments behind the call: the shared ones as they were, the changed ones as they are -/
def finO : List Nat → En → En → Option En
  | [], [], _ => some []
  | 0 :: ms, s :: ea, _ :: e => (finO ms ea e).map (s :: ·)
  | (m + 1) :: ms, _ :: ea, .ow w d :: e => if w = m + 1 then (finO ms ea e).map (.ow w d :: ·) else none
  | _, _, _ => none
/-- the changed ones are lost where the call raises -/
def dropO : List Nat → En → En
  | [], e => e
  | 0 :: ms, s :: e => s :: dropO ms e
  | (_ + 1) :: ms, _ :: e => .no :: dropO ms e
  | _, [] => []
def finish (ps : List Nat) (ea : En) : R Fl → CR
  | .ok (.rt m d) e => (match finO ps ea e with | some o => .ok m d o | none => .bad)
  | .ok .nx e => (match finO ps ea e with | some o => .ok 0 .none o | none => .bad)
  | .ok _ _ => .bad
  | .ex x _ => .ex x (dropO ps ea)
  | .bad => .bad
/-- a program: constants, a while's turns at most, defs -/
structure Pr where
  G : List D
  W : Nat
  F : List Fd
def run (P : Pr) : Nat → Nat → En → CR
  | 0, _, _ => .bad
  | k + 1, f, ea => match P.F[f]? with
    | some F => if modeOk F.ps ea then finish F.ps ea (exs ⟨P.G, P.W, run P k⟩ F.body (ea ++ List.replicate (F.n - F.ps.length) .no)) else .bad
    | none => .bad
end Pv

/-! PvI: rising lists of numbers. -/
namespace Pv
theorem insI_mem (k : Int) : ∀ (l : List Int) (j : Int), j ∈ insI k l ↔ j = k ∨ j ∈ l
  | [], j => by simp [insI]
  | a :: l, j => by
    unfold insI
    split
    · simp
    · split
      · rename_i h; subst h; simp
      · rw [List.mem_cons, insI_mem k l j, List.mem_cons]
        constructor
        · rintro (h | h | h)
          · exact .inr (.inl h)
          · exact .inl h
          · exact .inr (.inr h)
        · rintro (h | h | h)
          · exact .inr (.inl h)
          · exact .inl h
          · exact .inr (.inr h)
theorem insI_sorted (k : Int) : ∀ (l : List Int), l.Pairwise (· < ·) → (insI k l).Pairwise (· < ·)
  | [], _ => by simp [insI]
  | a :: l, h => by
    unfold insI
    obtain ⟨h1, h2⟩ := List.pairwise_cons.mp h
    split
    · rename_i c
      refine List.pairwise_cons.mpr ⟨fun j hj => ?_, h⟩
      rcases List.mem_cons.mp hj with e | hj
      · omega
      · have := h1 j hj; omega
    · split
      · exact h
      · refine List.pairwise_cons.mpr ⟨fun j hj => ?_, insI_sorted k l h2⟩
        rcases (insI_mem k l j).mp hj with e | hj
        · omega
        · exact h1 j hj
theorem sortI_mem (ns : List Int) (j : Int) : j ∈ sortI ns ↔ j ∈ ns := by
  unfold sortI
  induction ns with
  | nil => simp
  | cons a l ih => rw [List.foldr_cons, insI_mem, ih, List.mem_cons]
theorem sortI_sorted (ns : List Int) : (sortI ns).Pairwise (· < ·) := by
  unfold sortI
  induction ns with
  | nil => exact .nil
  | cons a l ih => exact insI_sorted a _ ih
theorem sorted_one : ∀ {a b : List Int}, a.Pairwise (· < ·) → b.Pairwise (· < ·) → (∀ k, k ∈ a ↔ k ∈ b) → a = b
  | [], [], _, _, _ => rfl
  | [], y :: b, _, _, h => absurd ((h y).mpr (by simp)) (by simp)
  | x :: a, [], _, _, h => absurd ((h x).mp (by simp)) (by simp)
  | x :: a, y :: b, ha, hb, h => by
    obtain ⟨a1, a2⟩ := List.pairwise_cons.mp ha
    obtain ⟨b1, b2⟩ := List.pairwise_cons.mp hb
    have exy : x = y := by
      rcases List.mem_cons.mp ((h x).mp (by simp)) with e | hx
      · exact e
      · rcases List.mem_cons.mp ((h y).mpr (by simp)) with e | hy
        · exact e.symm
        · have := b1 x hx; have := a1 y hy; omega
    subst exy
    rw [sorted_one a2 b2 fun k => ?_]
    constructor
    · intro hk
      rcases List.mem_cons.mp ((h k).mp (by simp [hk])) with e | q
      · have := a1 k hk; omega
      · exact q
    · intro hk
      rcases List.mem_cons.mp ((h k).mpr (by simp [hk])) with e | q
      · have := b1 k hk; omega
      · exact q
theorem maxI_mem (d a : Int) : ∀ r : List Int, maxI d (a :: r) ∈ a :: r ∧ ∀ y ∈ a :: r, y ≤ maxI d (a :: r) := by
  have key : ∀ (r : List Int) (a : Int), (r.foldl (fun a y => if a < y then y else a) a) ∈ a :: r ∧ ∀ y ∈ a :: r, y ≤ r.foldl (fun a y => if a < y then y else a) a := fun r => by
    induction r with
    | nil => intro a; simp
    | cons b r ih =>
      intro a
      rw [List.foldl_cons]
      obtain ⟨h1, h2⟩ := ih (if a < b then b else a)
      refine ⟨?_, fun y hy => ?_⟩
      · rcases List.mem_cons.mp h1 with h | h
        · rw [h]; split <;> simp
        · simp [h]
      · have h3 := h2 (if a < b then b else a) (by simp)
        generalize List.foldl (fun a y => if a < y then y else a) (if a < b then b else a) r = F at *
        rcases List.mem_cons.mp hy with rfl | hy
        · split at h3 <;> omega
        · rcases List.mem_cons.mp hy with rfl | hy
          · split at h3 <;> omega
          · exact h2 y (by simp [hy])
  exact fun r => key r a
theorem minI_mem (d a : Int) : ∀ r : List Int, minI d (a :: r) ∈ a :: r ∧ ∀ y ∈ a :: r, minI d (a :: r) ≤ y := by
  have key : ∀ (r : List Int) (a : Int), (r.foldl (fun a y => if y < a then y else a) a) ∈ a :: r ∧ ∀ y ∈ a :: r, r.foldl (fun a y => if y < a then y else a) a ≤ y := fun r => by
    induction r with
    | nil => intro a; simp
    | cons b r ih =>
      intro a
      rw [List.foldl_cons]
      obtain ⟨h1, h2⟩ := ih (if b < a then b else a)
      refine ⟨?_, fun y hy => ?_⟩
      · rcases List.mem_cons.mp h1 with h | h
        · rw [h]; split <;> simp
        · simp [h]
      · have h3 := h2 (if b < a then b else a) (by simp)
        generalize List.foldl (fun a y => if y < a then y else a) (if b < a then b else a) r = F at *
        rcases List.mem_cons.mp hy with rfl | hy
        · split at h3 <;> omega
        · rcases List.mem_cons.mp hy with rfl | hy
          · split at h3 <;> omega
          · exact h2 y (by simp [hy])
  exact fun r => key r a
theorem maxI_eq {d a m : Int} {r : List Int} (hm : m ∈ a :: r) (hb : ∀ y ∈ a :: r, y ≤ m) : m = maxI d (a :: r) := by
  obtain ⟨h1, h2⟩ := maxI_mem d a r
  have := hb _ h1; have := h2 _ hm; omega
theorem minI_eq {d a m : Int} {r : List Int} (hm : m ∈ a :: r) (hb : ∀ y ∈ a :: r, m ≤ y) : m = minI d (a :: r) := by
  obtain ⟨h1, h2⟩ := minI_mem d a r
  have := hb _ h1; have := h2 _ hm; omega
theorem insD_perm (k : Int) : ∀ l : List Int, (insD k l).Perm (k :: l)
  | [] => .refl _
  | a :: l => by
    unfold insD
    split
    · exact .refl _
    · exact ((insD_perm k l).cons a).trans (.swap _ _ _)
theorem insD_sorted (k : Int) : ∀ l : List Int, l.Pairwise (· ≤ ·) → (insD k l).Pairwise (· ≤ ·)
  | [], _ => by simp [insD]
  | a :: l, h => by
    unfold insD
    obtain ⟨h1, h2⟩ := List.pairwise_cons.mp h
    split
    · rename_i c
      refine List.pairwise_cons.mpr ⟨fun j hj => ?_, h⟩
      rcases List.mem_cons.mp hj with e | hj
      · omega
      · have := h1 j hj; omega
    · refine List.pairwise_cons.mpr ⟨fun j hj => ?_, insD_sorted k l h2⟩
      rcases List.mem_cons.mp ((insD_perm k l).mem_iff.mp hj) with e | hj
      · omega
      · exact h1 j hj
theorem sortD_perm (ns : List Int) : (sortD ns).Perm ns := by
  unfold sortD
  induction ns with
  | nil => exact .refl _
  | cons a l ih => exact (insD_perm a _).trans (ih.cons a)
theorem sortD_sorted (ns : List Int) : (sortD ns).Pairwise (· ≤ ·) := by
  unfold sortD
  induction ns with
  | nil => exact .nil
  | cons a l ih => exact insD_sorted a _ ih
theorem perm_sorted : ∀ {a b : List Int}, a.Perm b → a.Pairwise (· ≤ ·) → b.Pairwise (· ≤ ·) → a = b
  | [], b, p, _, _ => (List.nil_perm.mp p).symm
  | x :: a, [], p, _, _ => absurd p.length_eq (by simp)
  | x :: a, y :: b, p, ha, hb => by
    obtain ⟨a1, a2⟩ := List.pairwise_cons.mp ha
    obtain ⟨b1, b2⟩ := List.pairwise_cons.mp hb
    have exy : x = y := by
      have hx : x ≤ y := by
        rcases List.mem_cons.mp (p.mem_iff.mpr (List.mem_cons_self : y ∈ y :: b)) with e | h
        · omega
        · exact a1 y h
      have hy : y ≤ x := by
        rcases List.mem_cons.mp (p.mem_iff.mp (List.mem_cons_self : x ∈ x :: a)) with e | h
        · omega
        · exact b1 x h
      omega
    subst exy
    rw [perm_sorted (List.Perm.cons_inv p) a2 b2]
theorem sortD_eq {ns' ns : List Int} (p : ns'.Perm ns) (h : ns'.Pairwise (· ≤ ·)) : ns' = sortD ns := perm_sorted (p.trans (sortD_perm ns).symm) h (sortD_sorted ns)
end Pv

/-! PvS1: data over the abstract heap, the slots' relation, the readings. -/
namespace Pv
open PySem PySem.Spec PyProof.Rows L2

def keyD : Key → D
  | .inl i => .int i
  | .inr x => .str x
mutual
/-- v stands for d, by what the heap H tells -/
inductive Rp (K : PySem.W.Frag) (H : Hp) : V → D → Prop
  | non : Rp K H .non .none
  | bl (b : Bool) : Rp K H (.bl b) (.bool b)
  | int (i : Int) : Rp K H (.int i) (.int i)
  | str (x : Str) : Rp K H (.str x) (.str x)
  | lst {a : Addr} {xs : List V} {ds : List D} : SqL K H a xs → RpAll K H xs ds → Rp K H (.ref a) (.list ds)
  | tup {a : Addr} {xs : List V} {ds : List D} : SqT K H a xs → RpAll K H xs ds → Rp K H (.ref a) (.tuple ds)
  | dct {a : Addr} {kvs : List (Key × V)} {ds : List (D × D)} : Rd H a (.dK kvs) → RpKv K H kvs ds → Rp K H (.ref a) (.dict ds)
inductive RpAll (K : PySem.W.Frag) (H : Hp) : List V → List D → Prop
  | nil : RpAll K H [] []
  | cons {v : V} {vs : List V} {d : D} {ds : List D} : Rp K H v d → RpAll K H vs ds → RpAll K H (v :: vs) (d :: ds)
inductive RpKv (K : PySem.W.Frag) (H : Hp) : List (Key × V) → List (D × D) → Prop
  | nil : RpKv K H [] []
  | cons {k : Key} {v : V} {kvs : List (Key × V)} {d : D} {ds : List (D × D)} : Rp K H v d → RpKv K H kvs ds → RpKv K H ((k, v) :: kvs) ((keyD k, d) :: ds)
end

section
variable {K : PySem.W.Frag} {H H' : Hp}
theorem sqL_mono {a : Addr} {xs : List V} (s : Same H H') (h : SqL K H a xs) : SqL K H' a xs := by
  rcases h with (h | ⟨o, h⟩) | h
  · exact .inl (.inl (s _ _ h))
  · exact .inl (.inr ⟨o, s _ _ h⟩)
  · exact .inr h
theorem sqT_mono {a : Addr} {xs : List V} (s : Same H H') (h : SqT K H a xs) : SqT K H' a xs := by
  rcases h with (h | ⟨o, h⟩) | h
  · exact .inl (.inl (s _ _ h))
  · exact .inl (.inr ⟨o, s _ _ h⟩)
  · exact .inr h
theorem rd_mono {a : Addr} {u : HO} (s : Same H H') (h : Rd H a u) : Rd H' a u := by
  rcases h with h | ⟨o, h⟩
  · exact .inl (s _ _ h)
  · exact .inr ⟨o, s _ _ h⟩
mutual
theorem Rp.mono (s : Same H H') : ∀ (d : D) (v : V), Rp K H v d → Rp K H' v d
  | .none, v, h => by cases h; exact .non
  | .bool b, v, h => by cases h; exact .bl b
  | .int i, v, h => by cases h; exact .int i
  | .str x, v, h => by cases h; exact .str x
  | .list ds, v, h => by
    cases h with
    | lst q r => exact .lst (sqL_mono s q) (RpAll.mono s ds _ r)
  | .tuple ds, v, h => by
    cases h with
    | tup q r => exact .tup (sqT_mono s q) (RpAll.mono s ds _ r)
  | .dict ds, v, h => by
    cases h with
    | dct q r => exact .dct (rd_mono s q) (RpKv.mono s ds _ r)
theorem RpAll.mono (s : Same H H') : ∀ (ds : List D) (vs : List V), RpAll K H vs ds → RpAll K H' vs ds
  | [], _, h => by cases h; exact .nil
  | d :: ds, _, h => by
    cases h with
    | cons a b => exact .cons (Rp.mono s d _ a) (RpAll.mono s ds _ b)
theorem RpKv.mono (s : Same H H') : ∀ (ds : List (D × D)) (vs : List (Key × V)), RpKv K H vs ds → RpKv K H' vs ds
  | [], _, h => by cases h; exact .nil
  | (_, d) :: ds, _, h => by
    cases h with
    | cons a b => exact .cons (Rp.mono s d _ a) (RpKv.mono s ds _ b)
end
theorem Rp.up (s : Same H H') {v : V} {d : D} (h : Rp K H v d) : Rp K H' v d := Rp.mono s d v h
theorem RpAll.up (s : Same H H') {v : List V} {d : List D} (h : RpAll K H v d) : RpAll K H' v d := RpAll.mono s d v h
theorem RpKv.up (s : Same H H') {v : List (Key × V)} {d : List (D × D)} (h : RpKv K H v d) : RpKv K H' v d := RpKv.mono s d v h
theorem RpAll.length : ∀ {vs : List V} {ds : List D}, RpAll K H vs ds → vs.length = ds.length
  | _, _, .nil => rfl
  | _, _, .cons _ r => by simp [RpAll.length r]
theorem RpAll.get : ∀ {vs : List V} {ds : List D} {i : Nat} {d : D}, RpAll K H vs ds → ds[i]? = some d → ∃ v, vs[i]? = some v ∧ Rp K H v d
  | _, _, 0, _, .cons a _, h => by simp at h; subst h; exact ⟨_, rfl, a⟩
  | _, _, i + 1, _, .cons _ r, h => by
    obtain ⟨v, h1, h2⟩ := RpAll.get (i := i) r (by simpa using h)
    exact ⟨v, by simpa using h1, h2⟩
  | _, _, _, _, .nil, h => by simp at h
theorem RpAll.getV : ∀ {vs : List V} {ds : List D} {i : Nat} {v : V}, RpAll K H vs ds → vs[i]? = some v → ∃ d, ds[i]? = some d ∧ Rp K H v d
  | _, _, 0, _, .cons a _, h => by simp at h; subst h; exact ⟨_, rfl, a⟩
  | _, _, i + 1, _, .cons _ r, h => by
    obtain ⟨v, h1, h2⟩ := RpAll.getV (i := i) r (by simpa using h)
    exact ⟨v, by simpa using h1, h2⟩
  | _, _, _, _, .nil, h => by simp at h
theorem RpAll.append : ∀ {vs ws : List V} {ds es : List D}, RpAll K H vs ds → RpAll K H ws es → RpAll K H (vs ++ ws) (ds ++ es)
  | _, _, _, _, .nil, s => s
  | _, _, _, _, .cons a r, s => .cons a (RpAll.append r s)
theorem RpAll.take : ∀ {vs : List V} {ds : List D} (n : Nat), RpAll K H vs ds → RpAll K H (vs.take n) (ds.take n)
  | _, _, 0, _ => by simp; exact .nil
  | _, _, _ + 1, .nil => .nil
  | _, _, n + 1, .cons a r => .cons a (RpAll.take n r)
theorem RpAll.drop : ∀ {vs : List V} {ds : List D} (n : Nat), RpAll K H vs ds → RpAll K H (vs.drop n) (ds.drop n)
  | _, _, 0, r => r
  | _, _, _ + 1, .nil => .nil
  | _, _, n + 1, .cons _ r => RpAll.drop n r
theorem RpAll.set {v : V} {d : D} (q : Rp K H v d) : ∀ {vs : List V} {ds : List D} (n : Nat), RpAll K H vs ds → RpAll K H (vs.set n v) (ds.set n d)
  | _, _, _, .nil => .nil
  | _, _, 0, .cons _ r => .cons q r
  | _, _, n + 1, .cons a r => .cons a (RpAll.set q n r)
theorem RpAll.eraseIdx : ∀ {vs : List V} {ds : List D} (n : Nat), RpAll K H vs ds → RpAll K H (vs.eraseIdx n) (ds.eraseIdx n)
  | _, _, _, .nil => .nil
  | _, _, 0, .cons _ r => r
  | _, _, n + 1, .cons a r => .cons a (RpAll.eraseIdx n r)
theorem RpAll.reverse {vs : List V} {ds : List D} (h : RpAll K H vs ds) : RpAll K H vs.reverse ds.reverse := by
  induction vs generalizing ds with
  | nil => cases h; exact .nil
  | cons v vs ih =>
    cases h with
    | cons a r => simp only [List.reverse_cons]; exact (ih r).append (.cons a .nil)
theorem RpKv.length : ∀ {vs : List (Key × V)} {ds : List (D × D)}, RpKv K H vs ds → vs.length = ds.length
  | _, _, .nil => rfl
  | _, _, .cons _ r => by simp [RpKv.length r]

-- without lists and dicts only the tuples matter
mutual
theorem Rp.imm {H' : Hp} (s : ∀ a xs, SqT K H a xs → SqT K H' a xs) : ∀ (d : D) (v : V), immut d = true → Rp K H v d → Rp K H' v d
  | .none, v, _, h => by cases h; exact .non
  | .bool b, v, _, h => by cases h; exact .bl b
  | .int i, v, _, h => by cases h; exact .int i
  | .str x, v, _, h => by cases h; exact .str x
  | .list ds, v, q, h => by simp [immut] at q
  | .tuple ds, v, q, h => by
    cases h with
    | tup t r => exact .tup (s _ _ t) (RpAll.imm s ds _ (by simpa [immut] using q) r)
  | .dict ds, v, q, h => by simp [immut] at q
theorem RpAll.imm {H' : Hp} (s : ∀ a xs, SqT K H a xs → SqT K H' a xs) : ∀ (ds : List D) (vs : List V), immutAll ds = true → RpAll K H vs ds → RpAll K H' vs ds
  | [], _, _, h => by cases h; exact .nil
  | d :: ds, _, q, h => by
    simp [immutAll] at q
    cases h with
    | cons a b => exact .cons (Rp.imm s d _ q.1 a) (RpAll.imm s ds _ q.2 b)
end
end

/-! ### one's own containers -/
inductive OwnAll (P : V → D → List Addr → Prop) : List V → List D → List Addr → Prop
  | nil : OwnAll P [] [] []
  | cons {v : V} {d : D} {l : List Addr} {vs : List V} {ds : List D} {ls : List Addr} : P v d l → OwnAll P vs ds ls → OwnAll P (v :: vs) (d :: ds) (l ++ ls)
inductive OwnKv (P : V → D → List Addr → Prop) : List (Key × V) → List (D × D) → List Addr → Prop
  | nil : OwnKv P [] [] []
  | cons {k : Key} {v : V} {d : D} {l : List Addr} {vs : List (Key × V)} {ds : List (D × D)} {ls : List Addr} : P v d l → OwnKv P vs ds ls → OwnKv P ((k, v) :: vs) ((keyD k, d) :: ds) (l ++ ls)
/-- v stands for d; the containers down to m levels stand at l, each once, their items' data are shared -/
def Own (K : PySem.W.Frag) (Hs H : Hp) : Nat → V → D → List Addr → Prop
  | 0, v, d, l => Rp K Hs v d ∧ l = []
  | m + 1, v, d, l => (∃ a vs ds ls, v = .ref a ∧ d = .list ds ∧ H a = some (.lst vs) ∧ OwnAll (Own K Hs H m) vs ds ls ∧ l = a :: ls) ∨
      (∃ a kvs ds ls, v = .ref a ∧ d = .dict ds ∧ H a = some (.dK kvs) ∧ OwnKv (Own K Hs H m) kvs ds ls ∧ l = a :: ls)
def cont : HO → Prop
  | .lst _ => True
  | .dK _ => True
  | _ => False
section
variable {K : PySem.W.Frag} {Hs H Hs' H' : Hp}
theorem OwnAll.imp {P P' : V → D → List Addr → Prop} : ∀ {vs : List V} {ds : List D} {ls : List Addr}, OwnAll P vs ds ls → (∀ v d l, (∀ a ∈ l, a ∈ ls) → P v d l → P' v d l) → OwnAll P' vs ds ls
  | _, _, _, .nil, _ => .nil
  | _, _, _, .cons a r, f => .cons (f _ _ _ (fun b hb => List.mem_append_left _ hb) a) (OwnAll.imp r fun v d l hl => f v d l fun b hb => List.mem_append_right _ (hl b hb))
theorem OwnKv.imp {P P' : V → D → List Addr → Prop} : ∀ {vs : List (Key × V)} {ds : List (D × D)} {ls : List Addr}, OwnKv P vs ds ls → (∀ v d l, (∀ a ∈ l, a ∈ ls) → P v d l → P' v d l) → OwnKv P' vs ds ls
  | _, _, _, .nil, _ => .nil
  | _, _, _, .cons a r, f => .cons (f _ _ _ (fun b hb => List.mem_append_left _ hb) a) (OwnKv.imp r fun v d l hl => f v d l fun b hb => List.mem_append_right _ (hl b hb))
theorem Own.mono (s : Same Hs Hs') : ∀ (m : Nat) {v : V} {d : D} {l : List Addr}, (∀ a ∈ l, ∀ o, H a = some o → H' a = some o) → Own K Hs H m v d l → Own K Hs' H' m v d l
  | 0, _, _, _, _, h => ⟨h.1.up s, h.2⟩
  | m + 1, v, d, l, k, h => by
    rcases h with ⟨a, vs, ds, ls, rfl, rfl, e, o, rfl⟩ | ⟨a, vs, ds, ls, rfl, rfl, e, o, rfl⟩
    · exact .inl ⟨a, vs, ds, ls, rfl, rfl, k a (by simp) _ e, o.imp fun v d l hl => Own.mono s m fun b hb => k b (List.mem_cons_of_mem _ (hl b hb)), rfl⟩
    · exact .inr ⟨a, vs, ds, ls, rfl, rfl, k a (by simp) _ e, o.imp fun v d l hl => Own.mono s m fun b hb => k b (List.mem_cons_of_mem _ (hl b hb)), rfl⟩
theorem OwnAll.mem_of {P : V → D → List Addr → Prop} {Z : Addr → Prop} : ∀ {vs : List V} {ds : List D} {ls : List Addr}, OwnAll P vs ds ls → (∀ v d l, P v d l → ∀ a ∈ l, Z a) → ∀ a ∈ ls, Z a
  | _, _, _, .nil, _, _, h => by cases h
  | _, _, _, .cons p r, f, a, h => (List.mem_append.mp h).elim (f _ _ _ p a) (OwnAll.mem_of r f a)
theorem OwnKv.mem_of {P : V → D → List Addr → Prop} {Z : Addr → Prop} : ∀ {vs : List (Key × V)} {ds : List (D × D)} {ls : List Addr}, OwnKv P vs ds ls → (∀ v d l, P v d l → ∀ a ∈ l, Z a) → ∀ a ∈ ls, Z a
  | _, _, _, .nil, _, _, h => by cases h
  | _, _, _, .cons p r, f, a, h => (List.mem_append.mp h).elim (f _ _ _ p a) (OwnKv.mem_of r f a)
theorem Own.cont : ∀ (m : Nat) {v : V} {d : D} {l : List Addr}, Own K Hs H m v d l → ∀ a ∈ l, ∃ o, H a = some o ∧ cont o
  | 0, _, _, _, h => by rw [h.2]; simp
  | m + 1, v, d, l, h => by
    rcases h with ⟨a, vs, ds, ls, rfl, rfl, e, o, rfl⟩ | ⟨a, vs, ds, ls, rfl, rfl, e, o, rfl⟩
    · intro b hb
      rcases List.mem_cons.mp hb with rfl | hb
      · exact ⟨_, e, trivial⟩
      · exact o.mem_of (fun v d l h => Own.cont m h) b hb
    · intro b hb
      rcases List.mem_cons.mp hb with rfl | hb
      · exact ⟨_, e, trivial⟩
      · exact o.mem_of (fun v d l h => Own.cont m h) b hb
theorem OwnAll.rp {P : V → D → List Addr → Prop} : ∀ {vs : List V} {ds : List D} {ls : List Addr}, OwnAll P vs ds ls → (∀ v d l, (∀ a ∈ l, a ∈ ls) → P v d l → Rp K H v d) → RpAll K H vs ds
  | _, _, _, .nil, _ => .nil
  | _, _, _, .cons a r, f => .cons (f _ _ _ (fun b hb => List.mem_append_left _ hb) a) (OwnAll.rp r fun v d l hl => f v d l fun b hb => List.mem_append_right _ (hl b hb))
theorem OwnKv.rp {P : V → D → List Addr → Prop} : ∀ {vs : List (Key × V)} {ds : List (D × D)} {ls : List Addr}, OwnKv P vs ds ls → (∀ v d l, (∀ a ∈ l, a ∈ ls) → P v d l → Rp K H v d) → RpKv K H vs ds
  | _, _, _, .nil, _ => .nil
  | _, _, _, .cons a r, f => .cons (f _ _ _ (fun b hb => List.mem_append_left _ hb) a) (OwnKv.rp r fun v d l hl => f v d l fun b hb => List.mem_append_right _ (hl b hb))
/-- seen in a heap that tells of the own cells too it is plain data -/
theorem Own.rp {Hv : Hp} (s : Same Hs Hv) : ∀ (m : Nat) {v : V} {d : D} {l : List Addr}, (∀ a ∈ l, Hv a = H a) → Own K Hs H m v d l → Rp K Hv v d
  | 0, _, _, _, _, h => h.1.up s
  | m + 1, v, d, l, k, h => by
    rcases h with ⟨a, vs, ds, ls, rfl, rfl, e, o, rfl⟩ | ⟨a, vs, ds, ls, rfl, rfl, e, o, rfl⟩
    · exact .lst (SqL.of (by rw [k a (by simp)]; exact e)) (o.rp fun v d l hl h => Own.rp s m (fun b hb => k b (List.mem_cons_of_mem _ (hl b hb))) h)
    · exact .dct (.inl (by rw [k a (by simp)]; exact e)) (o.rp fun v d l hl h => Own.rp s m (fun b hb => k b (List.mem_cons_of_mem _ (hl b hb))) h)
theorem ownAll0 : ∀ {vs : List V} {ds : List D} {ls : List Addr}, OwnAll (Own K Hs H 0) vs ds ls → RpAll K Hs vs ds ∧ ls = []
  | _, _, _, .nil => ⟨.nil, rfl⟩
  | _, _, _, .cons a r => by
    obtain ⟨q, rfl⟩ := ownAll0 r
    obtain ⟨p, rfl⟩ := a
    exact ⟨.cons p q, rfl⟩
theorem ownKv0 : ∀ {vs : List (Key × V)} {ds : List (D × D)} {ls : List Addr}, OwnKv (Own K Hs H 0) vs ds ls → RpKv K Hs vs ds ∧ ls = []
  | _, _, _, .nil => ⟨.nil, rfl⟩
  | _, _, _, .cons a r => by
    obtain ⟨q, rfl⟩ := ownKv0 r
    obtain ⟨p, rfl⟩ := a
    exact ⟨.cons p q, rfl⟩
theorem ownAll_of : ∀ {vs : List V} {ds : List D}, RpAll K Hs vs ds → OwnAll (Own K Hs H 0) vs ds []
  | _, _, .nil => .nil
  | _, _, .cons a r => .cons (l := []) (ls := []) ⟨a, rfl⟩ (ownAll_of r)
theorem ownKv_of : ∀ {vs : List (Key × V)} {ds : List (D × D)}, RpKv K Hs vs ds → OwnKv (Own K Hs H 0) vs ds []
  | _, _, .nil => .nil
  | _, _, .cons a r => .cons (l := []) (ls := []) ⟨a, rfl⟩ (ownKv_of r)
theorem own1 {a : Addr} {vs : List V} {ds : List D} (e : H a = some (.lst vs)) (r : RpAll K Hs vs ds) : Own K Hs H 1 (.ref a) (.list ds) [a] :=
  .inl ⟨a, vs, ds, [], rfl, rfl, e, ownAll_of r, rfl⟩
theorem own1d {a : Addr} {vs : List (Key × V)} {ds : List (D × D)} (e : H a = some (.dK vs)) (r : RpKv K Hs vs ds) : Own K Hs H 1 (.ref a) (.dict ds) [a] :=
  .inr ⟨a, vs, ds, [], rfl, rfl, e, ownKv_of r, rfl⟩
end

/-! ### the tables of the defs' code objects: what a lambda's making writes to -/
class TabC where
  T : List (Addr × Str)
variable [TabC]
def isTab (a : Addr) : Prop := ∃ p ∈ TabC.T, p.1 = a
theorem isTab.at {H : Hp} (t : LamX.Tabs TabC.T H) {a : Addr} (h : isTab a) : ∃ ps, H a = some (.tbl ps) := by
  obtain ⟨p, hp, rfl⟩ := h
  obtain ⟨ps, e, _⟩ := t p hp
  exact ⟨ps, e⟩
theorem isTab.noc {H : Hp} (t : LamX.Tabs TabC.T H) {a : Addr} {o : HO} (e : H a = some o) (c : cont o) : ¬ isTab a := fun h => by
  obtain ⟨ps, e'⟩ := h.at t
  rw [e] at e'
  cases e'
  exact c.elim
/-- tables stay where a container is changed -/
theorem tabs_upd {H : Hp} {a : Addr} {o u : HO} (t : LamX.Tabs TabC.T H) (e : H a = some o) (c : cont o) : LamX.Tabs TabC.T (upd H a u) := fun p hp => by
  obtain ⟨ps, h1, h2, h3⟩ := t p hp
  have n1 : p.1 ≠ a := fun z => isTab.noc t e c ⟨p, hp, z⟩
  refine ⟨ps, by rw [upd_ne n1]; exact h1, h2, fun pos cv hc => ?_⟩
  obtain ⟨c', e1, e2⟩ := h3 pos cv hc
  have n2 : c' ≠ a := fun z => by
    rw [z, e] at e2
    cases e2
    exact c.elim
  exact ⟨c', e1, by rw [upd_ne n2]; exact e2⟩

/-! ### the slots -/
/-- e's slots stand at σ: what is shared is told by Hs, a part of H; slot i's own cells are A i -/
structure Rel (K : PySem.W.Frag) (σ : L2.St) (Hs H : Hp) (e : En) (A : Nat → List Addr) : Prop where
  len : σ.length = e.length
  sub : Same Hs H
  sh : ∀ (i : Nat) d, e[i]? = some (.sh d) → ∃ v, σ[i]? = some (some v) ∧ Rp K Hs v d
  ow : ∀ (i m : Nat) d, e[i]? = some (.ow m d) → ∃ v, σ[i]? = some (some v) ∧ Own K Hs H m v d (A i)
  nd : ∀ i, (A i).Nodup
  dj : ∀ i j a, a ∈ A i → a ∈ A j → i = j
  fr : ∀ i a, a ∈ A i → Hs a = none
  em : ∀ i : Nat, (∀ m d, e[i]? ≠ some (.ow m d)) → A i = []
  tb : LamX.Tabs TabC.T H
  nt : ∀ a, isTab a → Hs a = none
/-- what a piece of the program does to the heap -/
structure Stp (A : Nat → List Addr) (Hs H : Hp) (A' : Nat → List Addr) (Hs' H' : Hp) : Prop where
  hs : Same Hs Hs'
  fr : ∀ a o, H a = some o → (∀ i, a ∉ A i) → ¬ isTab a → H' a = some o
  new : ∀ i a, a ∈ A' i → (∃ j, a ∈ A j) ∨ H a = none
  shn : ∀ a, Hs' a ≠ none → Hs a ≠ none ∨ (∃ j, a ∈ A j) ∨ H a = none
  tb : ∀ a, isTab a → H a ≠ none → H' a ≠ none
section
variable {K : PySem.W.Frag} {σ : L2.St} {Hs H Hs1 H1 Hs' H' : Hp} {e : En} {A A1 A' : Nat → List Addr}
theorem Stp.refl : Stp A Hs H A Hs H := ⟨Same.refl _, fun _ _ h _ _ => h, fun i a h => .inl ⟨i, h⟩, fun a h => .inl h, fun _ _ h => h⟩
/-- what was nobody's new is not there at the beginning -/
theorem Stp.was (a : Stp A Hs H A1 Hs1 H1) {c : Addr} (z : H1 c = none) : (∃ j, c ∈ A j) ∨ H c = none := by
  by_cases q : ∃ j, c ∈ A j
  · exact .inl q
  · refine .inr ?_
    cases y : H c with
    | none => rfl
    | some o =>
      by_cases tc : isTab c
      · exact absurd z (a.tb c tc (by rw [y]; simp))
      · have := a.fr c o y (fun i hi => q ⟨i, hi⟩) tc
        rw [z] at this; cases this
theorem Stp.trans (a : Stp A Hs H A1 Hs1 H1) (b : Stp A1 Hs1 H1 A' Hs' H') : Stp A Hs H A' Hs' H' where
  hs := a.hs.trans b.hs
  fr := fun c o h n t => by
    refine b.fr c o (a.fr c o h n t) (fun i hi => ?_) t
    rcases a.new i c hi with ⟨j, hj⟩ | z
    · exact n j hj
    · rw [h] at z; cases z
  new := fun i c h => by
    rcases b.new i c h with ⟨j, hj⟩ | z
    · exact a.new j c hj
    · exact a.was z
  shn := fun c h => by
    rcases b.shn c h with z | ⟨j, hj⟩ | z
    · exact a.shn c z
    · exact .inr (a.new j c hj)
    · exact .inr (a.was z)
  tb := fun c t h => b.tb c t (a.tb c t h)
/-- something new was laid, all else stands -/
structure Ext (Hs H Hs' H' : Hp) : Prop where
  hs : Same Hs Hs'
  h : Same H H'
  sub : Same Hs' H'
  new : ∀ a, Hs' a ≠ none → Hs a ≠ none ∨ H a = none
theorem Ext.refl (s : Same Hs H) : Ext Hs H Hs H := ⟨Same.refl _, Same.refl _, s, fun _ h => .inl h⟩
theorem Ext.stp (x : Ext Hs H Hs' H') : Stp A Hs H A Hs' H' := ⟨x.hs, fun a o h _ _ => x.h a o h, fun i a h => .inl ⟨i, h⟩, fun a h => (x.new a h).imp id .inr, fun a _ h => by
  cases q : H a with
  | none => exact absurd q h
  | some o => rw [x.h a o q]; simp⟩
theorem Rel.own_some (R : Rel K σ Hs H e A) {i : Nat} {a : Addr} (h : a ∈ A i) : ∃ o, H a = some o ∧ cont o := by
  by_cases q : ∃ m d, e[i]? = some (.ow m d)
  · obtain ⟨m, d, q⟩ := q
    obtain ⟨v, _, o⟩ := R.ow i m d q
    exact Own.cont m o a h
  · rw [R.em i fun m d z => q ⟨m, d, z⟩] at h
    cases h
theorem Rel.ext (R : Rel K σ Hs H e A) (x : Ext Hs H Hs' H') : Rel K σ Hs' H' e A where
  len := R.len
  sub := x.sub
  sh := fun i d h => let ⟨v, a, b⟩ := R.sh i d h; ⟨v, a, b.up x.hs⟩
  ow := fun i m d h => let ⟨v, a, b⟩ := R.ow i m d h; ⟨v, a, Own.mono x.hs m (fun c _ o q => x.h c o q) b⟩
  nd := R.nd
  dj := R.dj
  fr := fun i a h => by
    cases q : Hs' a with
    | none => rfl
    | some o =>
      rcases x.new a (by rw [q]; simp) with z | z
      · exact absurd (R.fr i a h) z
      · obtain ⟨o', e', _⟩ := R.own_some h
        rw [z] at e'; cases e'
  em := R.em
  tb := R.tb.ext x.h
  nt := fun a t => by
    cases q : Hs' a with
    | none => rfl
    | some o =>
      rcases x.new a (by rw [q]; simp) with z | z
      · exact absurd (R.nt a t) z
      · obtain ⟨ps, e'⟩ := t.at R.tb
        rw [z] at e'; cases e'
/-- a new object, shared at once -/
theorem Ext.laid {p : Addr} {o : HO} (s : Same Hs H) (n : H p = none) : Ext Hs H (upd Hs p o) (upd H p o) := by
  have ns : Hs p = none := by
    cases q : Hs p with
    | none => rfl
    | some u => have := s _ _ q; rw [n] at this; cases this
  refine ⟨fun b u h => by rw [upd_ne (ne_of_none h ns)]; exact h, fun b u h => by rw [upd_ne (ne_of_none h n)]; exact h, fun b u h => ?_, fun b h => ?_⟩
  · by_cases hb : b = p
    · subst hb; rw [upd_same] at h ⊢; exact h
    · rw [upd_ne hb] at h ⊢; exact s _ _ h
  · by_cases hb : b = p
    · subst hb; exact .inr n
    · rw [upd_ne hb] at h; exact .inl h
/-- a new object, not shared -/
theorem Ext.laidO {p : Addr} {o : HO} (s : Same Hs H) (n : H p = none) : Ext Hs H Hs (upd H p o) :=
  ⟨Same.refl _, fun b u h => by rw [upd_ne (ne_of_none h n)]; exact h, fun b u h => by rw [upd_ne (ne_of_none (s _ _ h) n)]; exact s _ _ h, fun _ h => .inl h⟩
theorem Ext.trans (a : Ext Hs H Hs1 H1) (b : Ext Hs1 H1 Hs' H') : Ext Hs H Hs' H' :=
  ⟨a.hs.trans b.hs, a.h.trans b.h, b.sub, fun c h => by
    rcases b.new c h with z | z
    · exact a.new c z
    · refine .inr ?_
      cases q : H c with
      | none => rfl
      | some o => have := a.h _ _ q; rw [z] at this; cases this⟩
end

/-! ### the program's text: exception classes -/
structure Tx where
  cls : Nat → Option (Addr × Option Str)
def XnRep (T : Tx) (K : PySem.W.Frag) (Hs H : Hp) (x : Xn) (cls : Value) (dx : Option Addr) : Prop :=
  ∃ C f, T.cls x.c = some (C, f) ∧ cls = .ref C ∧ match f, x.f with
    | none, none => dx = none
    | some n, some d => ∃ p v, dx = some p ∧ H p = some (.xd [(n, v)]) ∧ Rp K Hs v d
    | _, _ => False

/-- r's end is wanted: good of its value and slots, W of what it raises -/
def Pst (T : Tx) (K : PySem.W.Frag) (W : WX) (A : Nat → List Addr) (Hs H : Hp) {α : Type} (r : R α) (good : α → En → Prop) : Prop :=
  match r with
  | .ok a e => good a e
  | .ex x e => ∀ σ' H' Hs' A' cls dx, Stp A Hs H A' Hs' H' → Rel K σ' Hs' H' e A' → XnRep T K Hs' H' x cls dx → W cls dx σ' H'
  | .bad => False
section
variable {T : Tx} {K : PySem.W.Frag} {W : WX} {A A1 : Nat → List Addr} {Hs H Hs1 H1 : Hp} {α β : Type}
theorem Pst.imp {r : R α} {g g' : α → En → Prop} (h : Pst T K W A Hs H r g) (f : ∀ a e, g a e → g' a e) : Pst T K W A Hs H r g' := by
  cases r with
  | ok a e => exact f a e h
  | ex x e => exact h
  | bad => exact h
theorem Pst.bind {r : R α} {k : α → M β} {g : β → En → Prop} (h : Pst T K W A Hs H (r.bind k) g) : Pst T K W A Hs H r (fun a e => Pst T K W A Hs H (k a e) g) := by
  cases r with
  | ok a e => exact h
  | ex x e => exact h
  | bad => exact h
/-- the same from a later state -/
theorem Pst.later {r : R α} {g : α → En → Prop} (h : Pst T K W A Hs H r g) (s : Stp A Hs H A1 Hs1 H1) : Pst T K W A1 Hs1 H1 r g := by
  cases r with
  | ok a e => exact h
  | ex x e => exact fun σ' H' Hs' A' cls dx s' => h σ' H' Hs' A' cls dx (s.trans s')
  | bad => exact h
end

/-- an argument's value stands at v -/
def AVr (K : PySem.W.Frag) (σ : L2.St) (Hs : Hp) (v : V) : AV → Prop
  | .val d => Rp K Hs v d
  | .own i => σ[i]? = some (some v)
theorem AVr.up {K : PySem.W.Frag} {σ : L2.St} {Hs Hs' : Hp} {v : V} {a : AV} (s : Same Hs Hs') (h : AVr K σ Hs v a) : AVr K σ Hs' v a := by
  cases a with
  | val d => exact Rp.up s h
  | own i => exact h
inductive AVrs (K : PySem.W.Frag) (σ : L2.St) (Hs : Hp) : List V → List AV → Prop
  | nil : AVrs K σ Hs [] []
  | cons {v : V} {a : AV} {vs : List V} {as : List AV} : AVr K σ Hs v a → AVrs K σ Hs vs as → AVrs K σ Hs (v :: vs) (a :: as)
theorem AVrs.up {K : PySem.W.Frag} {σ : L2.St} {Hs Hs' : Hp} (s : Same Hs Hs') : ∀ {vs : List V} {as : List AV}, AVrs K σ Hs vs as → AVrs K σ Hs' vs as
  | _, _, .nil => .nil
  | _, _, .cons a r => .cons (a.up s) (AVrs.up s r)

/-! ### the readings -/
/-- m, run at the slots: ρ says how its value stands -/
def tM (T : Tx) (K : PySem.W.Frag) (W : WX) {α ω : Type} (ρ : L2.St → Hp → Hp → ω → α → Prop) (m : M α) : L2.St → Hp → (ω → Hp → Prop) → Prop := fun σ H Q =>
  ∃ Hs e A, Rel K σ Hs H e A ∧ Pst T K W A Hs H (m e) fun a e' => ∀ v H' Hs' A', Stp A Hs H A' Hs' H' → Rel K σ Hs' H' e' A' → ρ σ Hs' H' v a → Q v H'
abbrev rA (K : PySem.W.Frag) : L2.St → Hp → Hp → V → AV → Prop := fun σ Hs _ v a => AVr K σ Hs v a
abbrev rAs (K : PySem.W.Frag) : L2.St → Hp → Hp → List V → List AV → Prop := fun σ Hs _ vs as => AVrs K σ Hs vs as
abbrev rD (K : PySem.W.Frag) : L2.St → Hp → Hp → V → D → Prop := fun _ Hs _ v d => Rp K Hs v d
abbrev rB : L2.St → Hp → Hp → Bool → Bool → Prop := fun _ _ _ b c => b = c
abbrev tA (T : Tx) (K : PySem.W.Frag) (W : WX) (m : M AV) : TE := tM T K W (rA K) m
abbrev tAs (T : Tx) (K : PySem.W.Frag) (W : WX) (m : M (List AV)) : TA := tM T K W (rAs K) m
abbrev tT (T : Tx) (K : PySem.W.Frag) (W : WX) (m : M Bool) : TT := tM T K W rB m

theorem _root_.L2.PE.mono {X : Cx} {e : Expr} {t u : TE} (h : PE X e t) (f : ∀ σ H Q, u σ H Q → t σ H Q) : PE X e u := ⟨fun pins s σ H Q I q => h.run pins s σ H Q I (f σ H Q q)⟩
theorem _root_.L2.PT.mono {X : Cx} {e : Expr} {t u : TT} (h : PT X e t) (f : ∀ σ H Q, u σ H Q → t σ H Q) : PT X e u := ⟨fun pins s σ H Q I q => h.run pins s σ H Q I (f σ H Q q)⟩
theorem _root_.L2.PA.mono {X : Cx} {e : List Expr} {t u : TA} (h : PA X e t) (f : ∀ σ H Q, u σ H Q → t σ H Q) : PA X e u := ⟨fun pos pins s σ H Q I q => h.run pos pins s σ H Q I (f σ H Q q)⟩
theorem _root_.L2.PS.mono {X : Cx} {e : Stmt} {t u : TS} (h : PS X e t) (f : ∀ D σ H, u D σ H → t D σ H) : PS X e u := ⟨fun pins s σ H D I q => h.run pins s σ H D I (f D σ H q)⟩
theorem _root_.L2.PSs.mono {X : Cx} {e : List Stmt} {t u : TS} (h : PSs X e t) (f : ∀ D σ H, u D σ H → t D σ H) : PSs X e u := ⟨fun pins s σ H D I q => h.run pins s σ H D I (f D σ H q)⟩

section
variable {T : Tx} {K : PySem.W.Frag} {W : WX} {α β ω ω' : Type} {ρ : L2.St → Hp → Hp → ω → α → Prop} {ρ' : L2.St → Hp → Hp → ω' → β → Prop} {σ : L2.St} {H : Hp}
/-- the first part is run, the rest is read where it stands -/
theorem tM_bind {m : M α} {k : α → M β} {Q : ω' → Hp → Prop} {Q1 : ω → Hp → Prop} (h : tM T K W ρ' (fun e => (m e).bind k) σ H Q)
    (f : ∀ (v : ω) (a : α) (Hs' H' : Hp) (e' : En) (A' : Nat → List Addr), Rel K σ Hs' H' e' A' → ρ σ Hs' H' v a →
      Pst T K W A' Hs' H' (k a e') (fun b e2 => ∀ w H2 Hs2 A2, Stp A' Hs' H' A2 Hs2 H2 → Rel K σ Hs2 H2 e2 A2 → ρ' σ Hs2 H2 w b → Q w H2) → Q1 v H') : tM T K W ρ m σ H Q1 := by
  obtain ⟨Hs, e, A, R, P⟩ := h
  refine ⟨Hs, e, A, R, P.bind.imp fun a e' P' v H' Hs' A' s' R' r' => ?_⟩
  exact f v a Hs' H' e' A' R' r' ((P'.later s').imp fun b e2 g w H2 Hs2 A2 s2 R2 r2 => g w H2 Hs2 A2 (s'.trans s2) R2 r2)
/-- a state with what is wanted of m there -/
theorem tM_at {m : M α} {Q : ω → Hp → Prop} {Hs : Hp} {e : En} {A : Nat → List Addr} (R : Rel K σ Hs H e A)
    (P : Pst T K W A Hs H (m e) fun a e' => ∀ v H' Hs' A', Stp A Hs H A' Hs' H' → Rel K σ Hs' H' e' A' → ρ σ Hs' H' v a → Q v H') : tM T K W ρ m σ H Q := ⟨Hs, e, A, R, P⟩
theorem tM_imp {m : M α} {Q Q' : ω → Hp → Prop} (h : tM T K W ρ m σ H Q) (f : ∀ v H, Q v H → Q' v H) : tM T K W ρ m σ H Q' := by
  obtain ⟨Hs, e, A, R, P⟩ := h
  exact ⟨Hs, e, A, R, P.imp fun a e' g v H' Hs' A' s r q => f _ _ (g v H' Hs' A' s r q)⟩
/-- another way of standing -/
theorem tM_rho {ρ2 : L2.St → Hp → Hp → ω → α → Prop} {m : M α} {Q : ω → Hp → Prop} (h : tM T K W ρ m σ H Q) (f : ∀ σ Hs H v a, ρ2 σ Hs H v a → ρ σ Hs H v a) : tM T K W ρ2 m σ H Q := by
  obtain ⟨Hs, e, A, R, P⟩ := h
  exact ⟨Hs, e, A, R, P.imp fun a e' g v H' Hs' A' s r q => g v H' Hs' A' s r (f _ _ _ _ _ q)⟩
end
end Pv

/-! PvS2: operations by values. -/
namespace Pv
open PySem PySem.Spec PyProof.Rows L2
variable [TabC]

/-- the root is read in H, what is within is told by Hs -/
def RpR (K : PySem.W.Frag) (Hs H : Hp) (v : V) (d : D) : Prop :=
  Rp K Hs v d ∨ (∃ a vs ds, v = .ref a ∧ d = .list ds ∧ H a = some (.lst vs) ∧ RpAll K Hs vs ds) ∨
    (∃ a kvs ds, v = .ref a ∧ d = .dict ds ∧ H a = some (.dK kvs) ∧ RpKv K Hs kvs ds)
inductive RpRs (K : PySem.W.Frag) (Hs H : Hp) : List V → List D → Prop
  | nil : RpRs K Hs H [] []
  | cons {v : V} {d : D} {vs : List V} {ds : List D} : RpR K Hs H v d → RpRs K Hs H vs ds → RpRs K Hs H (v :: vs) (d :: ds)
abbrev RV := List V → Hp → VK → Prop
/-- the answer shares nothing with the arguments' roots -/
def OpA (K : PySem.W.Frag) (r : RV) (f : List D → Option D) : Prop := ∀ (Hs H : Hp) (vs : List V) (ds : List D) (d : D) (Q : VK), Same Hs H → RpRs K Hs H vs ds → f ds = some d →
  (∀ v Hs' H', Ext Hs H Hs' H' → Rp K Hs' v d → Q v H') → r vs H Q
def OpB (K : PySem.W.Frag) (r : RV) (f : List D → Option D) : Prop := ∀ (Hs H : Hp) (vs : List V) (ds : List D) (d : D) (Q : VK), Same Hs H → RpAll K Hs vs ds → f ds = some d →
  (∀ v Hs' H', Ext Hs H Hs' H' → Rp K Hs' v d → Q v H') → r vs H Q
theorem RpRs.of {K : PySem.W.Frag} {Hs H : Hp} : ∀ {vs : List V} {ds : List D}, RpAll K Hs vs ds → RpRs K Hs H vs ds
  | _, _, .nil => .nil
  | _, _, .cons a r => .cons (.inl a) (RpRs.of r)
theorem OpA.b {K : PySem.W.Frag} {r : RV} {f : List D → Option D} (h : OpA K r f) : OpB K r f := fun Hs H vs ds d Q s R e q => h Hs H vs ds d Q s (.of R) e q

section
variable {K : PySem.W.Frag} {σ : L2.St} {Hs H : Hp} {e : En} {A : Nat → List Addr}
open Classical in
/-- all that is told, the own cells too -/
noncomputable def view (A : Nat → List Addr) (Hs H : Hp) : Hp := fun a => match Hs a with
  | some o => some o
  | none => if ∃ i, a ∈ A i then H a else none
theorem view_own (R : Rel K σ Hs H e A) {i : Nat} {a : Addr} (h : a ∈ A i) : view A Hs H a = H a := by
  unfold view
  rw [R.fr i a h]
  exact if_pos ⟨i, h⟩
theorem view_hs {a : Addr} {o : HO} (h : Hs a = some o) : view A Hs H a = some o := by
  unfold view; rw [h]
theorem view_sub (s : Same Hs H) : Same (view A Hs H) H := fun a o h => by
  unfold view at h
  cases q : Hs a with
  | some u => rw [q] at h; cases h; exact s _ _ q
  | none =>
    rw [q] at h
    simp only at h
    split at h
    · exact h
    · cases h
theorem res_view (R : Rel K σ Hs H e A) : ∀ {vs : List V} {as : List AV} {ds : List D}, AVrs K σ Hs vs as → resAll e as = some ds → RpAll K (view A Hs H) vs ds
  | _, _, _, .nil, h => by simp [resAll] at h; subst h; exact .nil
  | _, _, ds, .cons (v := v) (a := a) (as := as) p r, h => by
    simp only [resAll] at h
    cases q : resE e a with
    | none => rw [q] at h; simp at h
    | some d =>
      cases q2 : resAll e as with
      | none => rw [q, q2] at h; simp at h
      | some ds' =>
        rw [q, q2] at h
        simp at h
        subst h
        refine .cons ?_ (res_view R r q2)
        cases a with
        | val d' =>
          simp [resE] at q
          subst q
          exact Rp.up (fun a o h => view_hs h) p
        | own i =>
          simp only [resE] at q
          split at q
          · rename_i m d' hi
            cases q
            obtain ⟨u, h1, h2⟩ := R.ow i m _ hi
            have p' : σ[i]? = some (some v) := p
            rw [h1] at p'
            cases p'
            exact Own.rp (fun a o h => view_hs h) m (fun a ha => view_own R ha) h2
          · cases q
theorem res_vals : ∀ {vs : List V} {as : List AV} {ds : List D}, AVrs K σ Hs vs as → as.any isOwn = false → resAll e as = some ds → RpAll K Hs vs ds
  | _, _, _, .nil, _, h => by simp [resAll] at h; subst h; exact .nil
  | _, _, ds, .cons (v := v) (a := a) (as := as) p r, n, h => by
    simp only [resAll] at h
    simp only [List.any_cons, Bool.or_eq_false_iff] at n
    cases q : resE e a with
    | none => rw [q] at h; simp at h
    | some d =>
      cases q2 : resAll e as with
      | none => rw [q, q2] at h; simp at h
      | some ds' =>
        rw [q, q2] at h
        simp at h
        subst h
        refine .cons ?_ (res_vals r n.2 q2)
        cases a with
        | val d' =>
          simp [resE] at q
          subst q
          exact p
        | own i => exact absurd n.1 (by simp [isOwn])
theorem own1_root {m : Nat} {v : V} {d : D} {l : List Addr} (h : Own K Hs H m v d l) (hm : m = 1) : RpR K Hs H v d := by
  subst hm
  rcases h with ⟨a, vs, ds, ls, rfl, rfl, e, o, rfl⟩ | ⟨a, vs, ds, ls, rfl, rfl, e, o, rfl⟩
  · exact .inr (.inl ⟨a, vs, ds, rfl, rfl, e, (ownAll0 o).1⟩)
  · exact .inr (.inr ⟨a, vs, ds, rfl, rfl, e, (ownKv0 o).1⟩)
theorem res_root (R : Rel K σ Hs H e A) : ∀ {vs : List V} {as : List AV} {ds : List D}, AVrs K σ Hs vs as → as.any (isOwn2 e) = false → resAll e as = some ds → RpRs K Hs H vs ds
  | _, _, _, .nil, _, h => by simp [resAll] at h; subst h; exact .nil
  | _, _, ds, .cons (v := v) (a := a) (as := as) p r, n, h => by
    simp only [resAll] at h
    simp only [List.any_cons, Bool.or_eq_false_iff] at n
    cases q : resE e a with
    | none => rw [q] at h; simp at h
    | some d =>
      cases q2 : resAll e as with
      | none => rw [q, q2] at h; simp at h
      | some ds' =>
        rw [q, q2] at h
        simp at h
        subst h
        refine .cons ?_ (res_root R r n.2 q2)
        cases a with
        | val d' =>
          simp [resE] at q
          subst q
          exact .inl p
        | own i =>
          simp only [resE] at q
          split at q
          · rename_i m d' hi
            cases q
            obtain ⟨u, h1, h2⟩ := R.ow i m _ hi
            have p' : σ[i]? = some (some v) := p
            rw [h1] at p'
            cases p'
            have n1 := n.1
            simp only [isOwn2, hi, bne_eq_false_iff_eq] at n1
            exact own1_root h2 n1
          · cases q
open Classical in
/-- the own cells taken out again -/
noncomputable def unview (A : Nat → List Addr) (Hv : Hp) : Hp := fun a => if ∃ i, a ∈ A i then none else Hv a

variable {T : Tx} {W : WX}
theorem op_use {as : List AV} {vs : List V} {f : List D → Option D} {r : RV} {fresh : Bool} {good : D → En → Prop} {Q : VK} (hA : fresh = true → OpA K r f) (hB : OpB K r f)
    (R : Rel K σ Hs H e A) (av : AVrs K σ Hs vs as) (P : Pst T K W A Hs H (opM as fresh f e) good)
    (hQ : ∀ d v H' Hs', good d e → Stp A Hs H A Hs' H' → Rel K σ Hs' H' e A → Rp K Hs' v d → Q v H') : r vs H Q := by
  unfold opM at P
  cases q : resAll e as with
  | none => rw [q] at P; exact P.elim
  | some ds =>
    rw [q] at P
    simp only at P
    cases q2 : f ds with
    | none => rw [q2] at P; exact P.elim
    | some d =>
      rw [q2] at P
      simp only at P
      split at P
      · rename_i c
        have g : good d e := P
        by_cases n : as.any isOwn = false
        · exact hB Hs H vs ds d Q R.sub (res_vals av n q) q2 fun v Hs' H' x rp => hQ d v H' Hs' g x.stp (R.ext x) rp
        · by_cases i : immut d = true
          · refine hB (view A Hs H) H vs ds d Q (view_sub R.sub) (res_view R av q) q2 fun v Hv' H' x rp => ?_
            have hown : ∀ i a, a ∈ A i → ∃ o, H a = some o ∧ H' a = some o ∧ cont o := fun i a ha => by
              obtain ⟨o, h1, h2⟩ := R.own_some ha
              exact ⟨o, h1, x.h _ _ h1, h2⟩
            have xx : Ext Hs H (unview A Hv') H' := by
              refine ⟨fun a o h => ?_, x.h, fun a o h => ?_, fun a h => ?_⟩
              · have na : ¬ ∃ i, a ∈ A i := fun ⟨i, hi⟩ => by have := R.fr i a hi; rw [h] at this; cases this
                unfold unview
                rw [if_neg na]
                exact x.hs _ _ (view_hs h)
              · unfold unview at h
                split at h
                · cases h
                · exact x.sub _ _ h
              · unfold unview at h
                split at h
                · exact absurd rfl h
                · rename_i na
                  rcases x.new a h with z | z
                  · refine .inl fun y => z ?_
                    unfold view
                    rw [y]
                    exact if_neg na
                  · exact .inr z
            refine hQ d v H' _ g xx.stp (R.ext xx) (Rp.imm (fun a xs h => ?_) d v i rp)
            rcases h with (h | ⟨o, h⟩) | h
            · refine .inl (.inl ?_)
              unfold unview
              rw [if_neg]
              · exact h
              · rintro ⟨i, hi⟩
                obtain ⟨o, _, h2, h3⟩ := hown i a hi
                have := x.sub _ _ h
                rw [h2] at this
                cases this
                exact h3
            · refine .inl (.inr ⟨o, ?_⟩)
              unfold unview
              rw [if_neg]
              · exact h
              · rintro ⟨i, hi⟩
                obtain ⟨o, _, h2, h3⟩ := hown i a hi
                have := x.sub _ _ h
                rw [h2] at this
                cases this
                exact h3
            · exact .inr h
          · have c' : (fresh && !as.any (isOwn2 e)) = true := by
              simp only [Bool.not_eq_false] at n
              simp only [n, Bool.not_true, Bool.false_or, i] at c
              simpa using c
            simp only [Bool.and_eq_true, Bool.not_eq_true'] at c'
            exact hA c'.1 Hs H vs ds d Q R.sub (res_root R av c'.2 q) q2 fun v Hs' H' x rp => hQ d v H' Hs' g x.stp (R.ext x) rp
      · exact P.elim
end

/-! ### inversion -/
section
variable {K : PySem.W.Frag} {Hs H : Hp} {v : V}
theorem Rp.int_inv {i : Int} (h : Rp K Hs v (.int i)) : v = .int i := by cases h; rfl
theorem Rp.bool_inv {i : Bool} (h : Rp K Hs v (.bool i)) : v = .bl i := by cases h; rfl
theorem Rp.str_inv {i : Str} (h : Rp K Hs v (.str i)) : v = .str i := by cases h; rfl
theorem Rp.none_inv (h : Rp K Hs v .none) : v = .non := by cases h; rfl
theorem Rp.list_inv {ds : List D} (h : Rp K Hs v (.list ds)) : ∃ a vs, v = .ref a ∧ SqL K Hs a vs ∧ RpAll K Hs vs ds := by cases h with | lst q r => exact ⟨_, _, rfl, q, r⟩
theorem Rp.tuple_inv {ds : List D} (h : Rp K Hs v (.tuple ds)) : ∃ a vs, v = .ref a ∧ SqT K Hs a vs ∧ RpAll K Hs vs ds := by cases h with | tup q r => exact ⟨_, _, rfl, q, r⟩
theorem RpR.int {i : Int} (h : RpR K Hs H v (.int i)) : v = .int i := by
  rcases h with h | ⟨_, _, _, _, h, _⟩ | ⟨_, _, _, _, h, _⟩
  · exact h.int_inv
  · cases h
  · cases h
theorem RpR.str {i : Str} (h : RpR K Hs H v (.str i)) : v = .str i := by
  rcases h with h | ⟨_, _, _, _, h, _⟩ | ⟨_, _, _, _, h, _⟩
  · exact h.str_inv
  · cases h
  · cases h
theorem RpR.list {ds : List D} (s : Same Hs H) (h : RpR K Hs H v (.list ds)) : ∃ a vs, v = .ref a ∧ SqL K H a vs ∧ RpAll K Hs vs ds := by
  rcases h with h | ⟨a, vs, _, rfl, h, e, r⟩ | ⟨_, _, _, _, h, _⟩
  · obtain ⟨a, vs, rfl, q, r⟩ := h.list_inv
    exact ⟨a, vs, rfl, sqL_mono s q, r⟩
  · cases h
    exact ⟨a, vs, rfl, .of e, r⟩
  · cases h
theorem RpR.tuple {ds : List D} (s : Same Hs H) (h : RpR K Hs H v (.tuple ds)) : ∃ a vs, v = .ref a ∧ SqT K H a vs ∧ RpAll K Hs vs ds ∧ SqT K Hs a vs := by
  rcases h with h | ⟨a, vs, _, rfl, h, e, r⟩ | ⟨_, _, _, _, h, _⟩
  · obtain ⟨a, vs, rfl, q, r⟩ := h.tuple_inv
    exact ⟨a, vs, rfl, sqT_mono s q, r, q⟩
  · cases h
  · cases h
theorem RpRs.two {vs : List V} {d1 d2 : D} (h : RpRs K Hs H vs [d1, d2]) : ∃ x y, vs = [x, y] ∧ RpR K Hs H x d1 ∧ RpR K Hs H y d2 := by
  cases h with
  | cons a r => cases r with | cons b r => cases r; exact ⟨_, _, rfl, a, b⟩
theorem RpRs.one {vs : List V} {d1 : D} (h : RpRs K Hs H vs [d1]) : ∃ x, vs = [x] ∧ RpR K Hs H x d1 := by
  cases h with
  | cons a r => cases r; exact ⟨_, rfl, a⟩
theorem RpAll.two {vs : List V} {d1 d2 : D} (h : RpAll K Hs vs [d1, d2]) : ∃ x y, vs = [x, y] ∧ Rp K Hs x d1 ∧ Rp K Hs y d2 := by
  cases h with
  | cons a r => cases r with | cons b r => cases r; exact ⟨_, _, rfl, a, b⟩
theorem RpAll.one {vs : List V} {d1 : D} (h : RpAll K Hs vs [d1]) : ∃ x, vs = [x] ∧ Rp K Hs x d1 := by
  cases h with
  | cons a r => cases r; exact ⟨_, rfl, a⟩
theorem f2_some {f : D → D → Option D} {ds : List D} {d : D} (h : f2 f ds = some d) : ∃ a b, ds = [a, b] ∧ f a b = some d := by
  match ds, h with
  | [a, b], h => exact ⟨a, b, rfl, h⟩
theorem f1_some {f : D → Option D} {ds : List D} {d : D} (h : f1 f ds = some d) : ∃ a, ds = [a] ∧ f a = some d := by
  match ds, h with
  | [a], h => exact ⟨a, rfl, h⟩
end

/-- two values' rule as a rule of a list -/
def r2v (r : R2) : RV := fun vs H Q => ∃ x y, vs = [x, y] ∧ r x y H Q
def r1v (r : V → Hp → VK → Prop) : RV := fun vs H Q => ∃ x, vs = [x] ∧ r x H Q
/-- same data -/
theorem sline_eq : sline = sizeLine := by rw [sizeLine_eq]; rfl

/-! ### + -/
section
variable {X : Cx}
def rCatL (K : PySem.W.Frag) : R2 := fun x y H Q => ∃ l b xs zs, x = .ref l ∧ y = .ref b ∧ SqL K H l xs ∧ SqL K H b zs ∧ xs.length + zs.length ≤ sizeLine ∧ ∀ p, H p = none → Q (.ref p) (upd H p (.lst (xs ++ zs)))
theorem PlainL.at_ {h : Heap} {a : Addr} {its : Array Value} (p : PlainL h a its) : ∃ n sl, h.get? a = some ⟨.type "list", none, .seq its n, sl⟩ := by
  obtain ⟨o, n, e, c, d, q⟩ := p
  obtain ⟨oc, od, oda, osl⟩ := o
  simp only at c d q
  subst c; subst d; subst q
  exact ⟨n, osl, e⟩
theorem op_catL : OpR X (binaryOp .Add) (rCatL X.K) := by
  intro pins s σ H x y v u Q I rx ry h
  obtain ⟨l, b, xs, zs, rfl, rfl, hH, hB, hz, q⟩ := h
  cases rx
  cases ry
  obtain ⟨its, r, p, z⟩ := I.list hH
  obtain ⟨its2, r2, p2, z2⟩ := I.list hB
  obtain ⟨n, sl, e⟩ := PlainL.at_ p
  obtain ⟨n2, sl2, e2⟩ := PlainL.at_ p2
  have hl := r.length
  have hl2 := r2.length
  refine concat_meets ⟨_, e, rfl⟩ ⟨_, e2, rfl⟩ noFill_list_add seq_list_add PySem.F.slot_list_add PySem.F.entry_list_add (PySem.F.args_list_add_2 _ _) (list_addW l b its.toArray its2.toArray n n2 none none sl sl2 (by simp only [List.size_toArray]; omega)) ⟨e, e2, ?_⟩
  have ea : its.toArray ++ its2.toArray = (its ++ its2).toArray := by simp
  rw [ea]
  exact ⟨.ref _, _, I.lnew (t' := s.toks) (r.append r2) (by rw [List.length_append]; omega), rfl, q _ I.fresh⟩
def rAddS : R2 := fun x y H Q => ∃ i j, x = .str i ∧ y = .str j ∧ i.length + j.length ≤ sizeLine ∧ Q (.str (i ++ j)) H
def rAddA (K : PySem.W.Frag) : R2 := fun x y H Q => rI0 (fun i j => .int (i + j)) x y H Q ∨ rAddS x y H Q ∨ rCatL K x y H Q ∨ rCatA K x y H Q
theorem op_addA : OpR X (binaryOp .Add) (rAddA X.K) := op_add.or (op_add_str.or (op_catL.or op_catA))
end
section
variable {K : PySem.W.Frag}
theorem opA2 {r : R2} {f : D → D → Option D} (h : ∀ (Hs H : Hp) (x y : V) (a b d : D) (Q : VK), Same Hs H → RpR K Hs H x a → RpR K Hs H y b → f a b = some d → (∀ v Hs' H', Ext Hs H Hs' H' → Rp K Hs' v d → Q v H') → r x y H Q) : OpA K (r2v r) (f2 f) := by
  intro Hs H vs ds d Q s R e q
  obtain ⟨a, b, rfl, e'⟩ := f2_some e
  obtain ⟨x, y, rfl, ra, rb⟩ := R.two
  exact ⟨x, y, rfl, h Hs H x y a b d Q s ra rb e' q⟩
theorem opB2 {r : R2} {f : D → D → Option D} (h : ∀ (Hs H : Hp) (x y : V) (a b d : D) (Q : VK), Same Hs H → Rp K Hs x a → Rp K Hs y b → f a b = some d → (∀ v Hs' H', Ext Hs H Hs' H' → Rp K Hs' v d → Q v H') → r x y H Q) : OpB K (r2v r) (f2 f) := by
  intro Hs H vs ds d Q s R e q
  obtain ⟨a, b, rfl, e'⟩ := f2_some e
  obtain ⟨x, y, rfl, ra, rb⟩ := R.two
  exact ⟨x, y, rfl, h Hs H x y a b d Q s ra rb e' q⟩
theorem opA1 {r : V → Hp → VK → Prop} {f : D → Option D} (h : ∀ (Hs H : Hp) (x : V) (a d : D) (Q : VK), Same Hs H → RpR K Hs H x a → f a = some d → (∀ v Hs' H', Ext Hs H Hs' H' → Rp K Hs' v d → Q v H') → r x H Q) : OpA K (r1v r) (f1 f) := by
  intro Hs H vs ds d Q s R e q
  obtain ⟨a, rfl, e'⟩ := f1_some e
  obtain ⟨x, rfl, ra⟩ := R.one
  exact ⟨x, rfl, h Hs H x a d Q s ra e' q⟩
theorem opB1 {r : V → Hp → VK → Prop} {f : D → Option D} (h : ∀ (Hs H : Hp) (x : V) (a d : D) (Q : VK), Same Hs H → Rp K Hs x a → f a = some d → (∀ v Hs' H', Ext Hs H Hs' H' → Rp K Hs' v d → Q v H') → r x H Q) : OpB K (r1v r) (f1 f) := by
  intro Hs H vs ds d Q s R e q
  obtain ⟨a, rfl, e'⟩ := f1_some e
  obtain ⟨x, rfl, ra⟩ := R.one
  exact ⟨x, rfl, h Hs H x a d Q s ra e' q⟩
theorem opA_add : OpA K (r2v (rAddA K)) (f2 (binD .Add)) := by
  refine opA2 fun Hs H x y a b d Q s ra rb e q => ?_
  cases a <;> cases b <;> try (cases e; done)
  · cases e
    cases ra.int; cases rb.int
    exact .inl ⟨_, _, rfl, rfl, q _ _ _ (.refl s) (.int _)⟩
  · simp only [binD] at e
    split at e
    · rename_i c
      cases e
      cases ra.str; cases rb.str
      exact .inr (.inl ⟨_, _, rfl, rfl, sline_eq ▸ c, q _ _ _ (.refl s) (.str _)⟩)
    · cases e
  · simp only [binD] at e
    split at e
    · rename_i c
      cases e
      obtain ⟨l, xs, rfl, h1, r1⟩ := ra.list s
      obtain ⟨b, ys, rfl, h2, r2⟩ := rb.list s
      refine .inr (.inr (.inl ⟨_, _, _, _, rfl, rfl, h1, h2, by rw [r1.length, r2.length]; exact sline_eq ▸ c, fun p n => ?_⟩))
      have x := Ext.laid (o := .lst (xs ++ ys)) s n
      exact q _ _ _ x (.lst (.of upd_same) ((r1.append r2).up x.hs))
    · cases e
  · simp only [binD] at e
    split at e
    · rename_i c
      cases e
      obtain ⟨l, xs, rfl, h1, r1, t1⟩ := ra.tuple s
      obtain ⟨b, ys, rfl, h2, r2, t2⟩ := rb.tuple s
      refine .inr (.inr (.inr ⟨_, _, _, _, rfl, rfl, h1, h2, by rw [r1.length, r2.length]; exact sline_eq ▸ c, fun z => ?_, fun _ z => ?_, fun _ _ p n => ?_⟩))
      · subst z
        cases r1
        exact q _ _ _ (.refl s) (.tup t2 r2)
      · subst z
        cases r2
        rw [List.append_nil] at q
        exact q _ _ _ (.refl s) (.tup t1 r1)
      · have x := Ext.laid (o := .tup (xs ++ ys)) s n
        exact q _ _ _ x (.tup (.of upd_same) ((r1.append r2).up x.hs))
    · cases e

/-! ### the other operators on ints -/
theorem rp_int2 {Hs : Hp} {x y : V} {i j : Int} (a : Rp K Hs x (.int i)) (b : Rp K Hs y (.int j)) : x = .int i ∧ y = .int j := ⟨a.int_inv, b.int_inv⟩
theorem opB_sub : OpB K (r2v (rI0 fun i j => .int (i - j))) (f2 (binD .Sub)) := by
  refine opB2 fun Hs H x y a b d Q s ra rb e q => ?_
  cases a <;> cases b <;> try (cases e; done)
  cases e
  obtain ⟨rfl, rfl⟩ := rp_int2 ra rb
  exact ⟨_, _, rfl, rfl, q _ _ _ (.refl s) (.int _)⟩
theorem pow64 : (2 ^ 64 : Int) = ((2 ^ 64 : Nat) : Int) := by decide
theorem lt64 {i : Int} (h : i.natAbs < 2 ^ 64) : -(2 ^ 64) < i ∧ i < 2 ^ 64 := by
  have e := pow64
  have h' : ((i.natAbs : Nat) : Int) < ((2 ^ 64 : Nat) : Int) := Int.ofNat_lt.mpr h
  rw [← e] at h'
  omega
theorem rep_rp {Hs : Hp} {vs : List V} {ds : List D} (r : RpAll K Hs vs ds) : ∀ n : Nat, RpAll K Hs (List.replicate n vs).flatten (List.replicate n ds).flatten
  | 0 => .nil
  | n + 1 => by
    rw [List.replicate_succ, List.replicate_succ, List.flatten_cons, List.flatten_cons]
    exact r.append (rep_rp r n)
def rMulS : R2 := fun x y H Q => ∃ (a : Str) (n : Int), x = .str a ∧ y = .int n ∧ (-1000 ≤ n ∧ n ≤ 1000 ∧ a.length ≤ 10000) ∧ Q (.str (mulS a n)) H
/-- a tuple times 1 is itself -/
def rRep1 (K : PySem.W.Frag) : R2 := fun x y H Q => ∃ l xs, x = .ref l ∧ y = .int 1 ∧ SqT K H l xs ∧ Q (.ref l) H
theorem tuple_mul1 (l : Addr) (items : Array Value) (n : Nat) (dd : Option Addr) (sl : Array (Option Value)) (u : Tok) :
    Meets (Builtin.«tuple.__mul__» ⟨[.ref l, .int 1 u], []⟩) (fun _ R s => s.heap.get? l = some { cls := .type "tuple", dict := dd, data := .seq items n, slots := sl } ∧
      R (.ok (.ret (Value.ref l))) s) :=
  .of_wp fun prog w A R s h => by
    obtain ⟨hp, g, d, tk, os⟩ := s
    obtain ⟨hl, h⟩ := h
    have f1 := AutoSeq1.idx_int
    have c0 : (decide ((1 : Int) < -(2 ^ 63)) || decide ((1 : Int) ≥ 2 ^ 63)) = false := by decide
    have c1 : (items.isEmpty || (1 : Int) == 1) = true := by simp
    wp_walk using AutoSeq1.wpAny_loadPart' hl
    repeat (first
      | (refine wpAny_ite_false (decide_eq_false (by rw [c0]; exact Bool.false_ne_true)) ?_; wp_walk using AutoSeq1.wpAny_loadPart' hl)
      | (refine wpAny_ite_true (decide_eq_true (by rw [c1])) ?_; wp_walk using AutoSeq1.wpAny_loadPart' hl))
    all_goals exact ⟨_, rfl, h⟩
theorem op_rep1 {X : Cx} : OpR X (binaryOp .Mult) (rRep1 X.K) := by
  intro pins s σ H x y v u Q I rx ry h
  obtain ⟨l, xs, rfl, rfl, hT, q⟩ := h
  cases rx
  obtain ⟨t, rfl⟩ := ry
  obtain ⟨its, r, ⟨⟨cls, dd, data, sl⟩, ho, hc, n, hd⟩, hs⟩ := I.tuple hT
  simp only at hc hd
  subst hc hd
  exact wpAny_binaryOp_repeat_ref (T := "tuple") (U := "int") (by decide) ⟨_, ho, rfl⟩ (fun s' => typeIs_int s' 1 t) noFill_tuple_mul F.fills_int_mul F.slot_int_rmul repeat_tuple F.slot_int_index.lookup
    (call_meets F.slot_int_rmul (typeIs_int s 1 t) F.entry_int_rmul (F.args_int_rmul_2 _ _) (int_rmul_tuple 1 t l its.toArray n dd sl)
      ⟨ho, rfl, ⟨_, ho, rfl⟩, call_meets F.slot_tuple_mul ⟨_, ho, rfl⟩ F.entry_tuple_mul (F.args_tuple_mul_2 _ _) (tuple_mul1 l its.toArray n dd sl t) ⟨ho, ⟨.ref l, _, I, rfl, q⟩⟩⟩)
def rMulA (K : PySem.W.Frag) : R2 := fun x y H Q => (rI CMul fun i j => .int (i * j)) x y H Q ∨ rMulS x y H Q ∨ rRepL K x y H Q ∨ rRepT K x y H Q ∨ rRep1 K x y H Q
theorem op_mulA {X : Cx} : OpR X (binaryOp .Mult) (rMulA X.K) := op_mul.or (op_mulS.or (op_repL.or (op_repT.or op_rep1)))
theorem opB_mul : OpB K (r2v (rMulA K)) (f2 (binD .Mult)) := by
  refine opB2 fun Hs H x y a b d Q s ra rb e q => ?_
  cases a <;> cases b <;> try (cases e; done)
  · simp only [binD] at e
    split at e
    · rename_i c
      cases e
      obtain ⟨rfl, rfl⟩ := rp_int2 ra rb
      simp only [mulOk, Bool.or_eq_true, decide_eq_true_eq] at c
      exact .inl ⟨_, _, rfl, rfl, c.elim (fun c => .inl (lt64 c)) (fun c => .inr (lt64 c)), q _ _ _ (.refl s) (.int _)⟩
    · cases e
  · simp only [binD] at e
    split at e
    · rename_i c
      cases e
      cases Rp.str_inv ra; cases rb.int_inv
      exact .inr (.inl ⟨_, _, rfl, rfl, c, q _ _ _ (.refl s) (.str _)⟩)
    · cases e
  · simp only [binD] at e
    split at e
    · rename_i xs n c
      cases e
      cases rb.int_inv
      obtain ⟨l, vs, rfl, h1, r1⟩ := Rp.list_inv ra
      have hz : vs.length * n.toNat ≤ sizeLine := by
        rw [r1.length, ← sline_eq]
        have : xs.length * n.toNat ≤ 10000 * 1000 := Nat.mul_le_mul c.2.2 (by omega)
        show _ ≤ 16777216
        omega
      refine .inr (.inr (.inl ⟨l, n, vs, rfl, rfl, sqL_mono s h1, by omega, by omega, hz, fun p np => ?_⟩))
      have x := Ext.laid (o := .lst (List.replicate n.toNat vs).flatten) s np
      exact q _ _ _ x (.lst (.of upd_same) ((rep_rp r1 n.toNat).up x.hs))
    · cases e
  · simp only [binD] at e
    split at e
    · rename_i xs n c
      cases e
      cases rb.int_inv
      obtain ⟨l, vs, rfl, h1, r1⟩ := Rp.tuple_inv ra
      by_cases hn1 : n = 1
      · subst hn1
        have e1 : (List.replicate (1 : Int).toNat xs).flatten = xs := by simp
        rw [e1] at q
        exact .inr (.inr (.inr (.inr ⟨l, vs, rfl, rfl, sqT_mono s h1, q _ _ _ (.refl s) (.tup h1 r1)⟩)))
      refine .inr (.inr (.inr (.inl ⟨l, n, vs, rfl, rfl, sqT_mono s h1, fun z => c.1 (by rw [z] at r1; cases r1; rfl), by omega, c.2.2.1, by rw [r1.length]; exact c.2.2.2, fun p np => ?_⟩)))
      have x := Ext.laid (o := .tup (List.replicate n.toNat vs).flatten) s np
      exact q _ _ _ x (.tup (.of upd_same) ((rep_rp r1 n.toNat).up x.hs))
    · cases e
theorem opB_fdiv : OpB K (r2v (rI CDivN fun i j => .int (i.fdiv j))) (f2 (binD .FloorDiv)) := by
  refine opB2 fun Hs H x y a b d Q s ra rb e q => ?_
  cases a <;> cases b <;> try (cases e; done)
  simp only [binD] at e
  split at e
  · rename_i c
    cases e
    obtain ⟨rfl, rfl⟩ := rp_int2 ra rb
    exact ⟨_, _, rfl, rfl, c, q _ _ _ (.refl s) (.int _)⟩
  · cases e
theorem opB_mod : OpB K (r2v (rI (fun _ j => j ≠ 0) fun i j => .int (i.fmod j))) (f2 (binD .Mod)) := by
  refine opB2 fun Hs H x y a b d Q s ra rb e q => ?_
  cases a <;> cases b <;> try (cases e; done)
  simp only [binD] at e
  split at e
  · rename_i c
    cases e
    obtain ⟨rfl, rfl⟩ := rp_int2 ra rb
    exact ⟨_, _, rfl, rfl, c, q _ _ _ (.refl s) (.int _)⟩
  · cases e
def CPowB (i j : Int) : Prop := (0 ≤ j ∧ j ≤ 1000000 ∧ i.natAbs < 2 ^ 64) ∨ (0 ≤ j ∧ j ≤ 100 ∧ i.natAbs < 2 ^ 200)
theorem op_powB {X : Cx} : OpR X (binaryOp .Pow) (rI CPowB fun i j => .int (i ^ j.toNat)) := opI fun i j _ _ _ _ _ hc q => by
  rcases hc with hc | hc
  · exact pow_int_small hc.1 hc.2.1 hc.2.2 q
  · refine pow_int hc.1 ?_ q
    have hb : Builtin.Int.intBits i ≤ 200 := by
      unfold Builtin.Int.intBits
      split
      · omega
      · rename_i h
        have h0 : i.natAbs ≠ 0 := by
          intro z
          exact h (by have : i = 0 := Int.natAbs_eq_zero.mp z; rw [this]; rfl)
        have := (Nat.log2_lt h0).mpr hc.2.2
        omega
    have h1 : (Builtin.Int.intBits i : Int) * j ≤ 200 * 100 := Int.mul_le_mul (by omega) hc.2.1 hc.1 (by decide)
    exact Int.le_trans h1 (by decide)
theorem opB_pow : OpB K (r2v (rI CPowB fun i j => .int (i ^ j.toNat))) (f2 (binD .Pow)) := by
  refine opB2 fun Hs H x y a b d Q s ra rb e q => ?_
  cases a <;> cases b <;> try (cases e; done)
  simp only [binD] at e
  split at e
  · rename_i c
    cases e
    obtain ⟨rfl, rfl⟩ := rp_int2 ra rb
    exact ⟨_, _, rfl, rfl, c, q _ _ _ (.refl s) (.int _)⟩
  · cases e
theorem opB_neg : OpB K (r1v (rU fun i => .int (-i))) (f1 negD) := by
  refine opB1 fun Hs H x a d Q s ra e q => ?_
  cases a <;> try (cases e; done)
  cases e
  cases ra.int_inv
  exact ⟨_, rfl, q _ _ _ (.refl s) (.int _)⟩
/-- which operators are served -/
def opOk : Operator → Bool
  | .Add | .Sub | .Mult | .FloorDiv | .Mod | .Pow => true
  | _ => false
theorem op_bin {X : Cx} {op : Operator} (h : opOk op = true) : ∃ r : R2, OpR X (binaryOp op) r ∧ ((op == .Add) = true → OpA X.K (r2v r) (f2 (binD op))) ∧ OpB X.K (r2v r) (f2 (binD op)) := by
  cases op <;> first | (cases h; done) | skip
  · exact ⟨_, op_addA, fun _ => opA_add, opA_add.b⟩
  · exact ⟨_, op_sub, (fun h => nomatch h), opB_sub⟩
  · exact ⟨_, op_mulA, (fun h => nomatch h), opB_mul⟩
  · exact ⟨_, op_modN, (fun h => nomatch h), opB_mod⟩
  · exact ⟨_, op_powB, (fun h => nomatch h), opB_pow⟩
  · exact ⟨_, op_fdivN, (fun h => nomatch h), opB_fdiv⟩
end
/-- an operation whose answer is a new list -/
def OpN (K : PySem.W.Frag) (r : RV) (f : List D → Option D) : Prop := ∀ (Hs H : Hp) (vs : List V) (ds : List D) (d : D) (Q : VK), Same Hs H → RpRs K Hs H vs ds → f ds = some d →
  (∀ p ys dys, H p = none → d = .list dys → RpAll K Hs ys dys → Q (.ref p) (upd H p (.lst ys))) → r vs H Q
theorem OpN.a {K : PySem.W.Frag} {r : RV} {f : List D → Option D} (h : OpN K r f) : OpA K r f := fun Hs H vs ds d Q s R e q =>
  h Hs H vs ds d Q s R e fun p ys dys n z rp => by
    subst z
    have x := Ext.laid (o := .lst ys) s n
    exact q _ _ _ x (.lst (.of upd_same) (rp.up x.hs))
section
variable {K : PySem.W.Frag} {σ : L2.St} {Hs H : Hp} {e : En} {A : Nat → List Addr} {T : Tx} {W : WX}
/-- an operation that makes a new list: its arguments' roots, its answer -/
theorem opM_roots {as : List AV} {vs : List V} {f : List D → Option D} {good : D → En → Prop} (hi : ∀ ds d, f ds = some d → immut d = false)
    (R : Rel K σ Hs H e A) (av : AVrs K σ Hs vs as) (P : Pst T K W A Hs H (opM as true f e) good) : ∃ ds d, RpRs K Hs H vs ds ∧ f ds = some d ∧ good d e := by
  unfold opM at P
  cases q : resAll e as with
  | none => rw [q] at P; exact P.elim
  | some ds =>
    rw [q] at P
    simp only at P
    cases q2 : f ds with
    | none => rw [q2] at P; exact P.elim
    | some d =>
      rw [q2] at P
      simp only at P
      split at P
      · rename_i c
        have g : good d e := P
        by_cases n : as.any isOwn = false
        · exact ⟨ds, d, .of (res_vals av n q), q2, g⟩
        · have c' : as.any (isOwn2 e) = false := by
            simp only [Bool.not_eq_false] at n
            simp only [n, Bool.not_true, Bool.false_or, hi ds d q2, Bool.true_and] at c
            simpa using c
          exact ⟨ds, d, res_root R av c' q, q2, g⟩
      · exact P.elim
theorem opN_use {as : List AV} {vs : List V} {f : List D → Option D} {r : RV} {good : D → En → Prop} {Q : VK} (hN : OpN K r f) (hi : ∀ ds d, f ds = some d → immut d = false)
    (R : Rel K σ Hs H e A) (av : AVrs K σ Hs vs as) (P : Pst T K W A Hs H (opM as true f e) good)
    (hQ : ∀ d p ys dys, good d e → d = .list dys → H p = none → RpAll K Hs ys dys → Q (.ref p) (upd H p (.lst ys))) : r vs H Q := by
  obtain ⟨ds, d, h1, h2, h3⟩ := opM_roots hi R av P
  exact hN Hs H vs ds d Q R.sub h1 h2 fun p ys dys n z rp => hQ d p ys dys h3 z n rp
end
end Pv

/-! PvS3: comparisons, items, slices, built-ins, methods by values. -/
namespace Pv
open PySem PySem.Spec PyProof.Rows L2
variable [TabC]

section
variable {K : PySem.W.Frag} {H : Hp}
mutual
theorem Rp.dp : ∀ (d : D) (v : V), d.hasDict = false → Rp K H v d → Dp K H v d
  | .none, v, _, h => by cases h; exact .non
  | .bool b, v, _, h => by cases h; exact .bl b
  | .int i, v, _, h => by cases h; exact .int i
  | .str x, v, _, h => by cases h; exact .str x
  | .list ds, v, n, h => by
    cases h with
    | lst q r => exact .lst q (RpAll.dp ds _ (by simpa [PyData.hasDict] using n) r)
  | .tuple ds, v, n, h => by
    cases h with
    | tup q r => exact .tup q (RpAll.dp ds _ (by simpa [PyData.hasDict] using n) r)
  | .dict ds, v, n, h => by simp [PyData.hasDict] at n
theorem RpAll.dp : ∀ (ds : List D) (vs : List V), PyData.hasDictAll ds = false → RpAll K H vs ds → DpAll K H vs ds
  | [], _, _, h => by cases h; exact .nil
  | d :: ds, _, n, h => by
    simp [PyData.hasDictAll] at n
    cases h with
    | cons a b => exact .cons (Rp.dp d _ n.1 a) (RpAll.dp ds _ n.2 b)
end
mutual
theorem plain_noDict : ∀ d : D, PyData.plain d = true → d.hasDict = false
  | .none, _ | .bool _, _ | .int _, _ | .str _, _ => by simp [PyData.hasDict]
  | .list xs, h => by simp only [PyData.hasDict]; exact plain_noDicts xs (by simpa [PyData.plain] using h)
  | .tuple xs, h => by simp only [PyData.hasDict]; exact plain_noDicts xs (by simpa [PyData.plain] using h)
  | .dict _, h => by simp [PyData.plain] at h
theorem plain_noDicts : ∀ xs : List D, PyData.plainAll xs = true → PyData.hasDictAll xs = false
  | [], _ => by simp [PyData.hasDictAll]
  | x :: xs, h => by
    simp only [PyData.plainAll, Bool.and_eq_true] at h
    simp [PyData.hasDictAll, plain_noDict x h.1, plain_noDicts xs h.2]
end
theorem eqOk_dp {v : V} {d : D} (h : eqOk d = true) (r : Rp K H v d) : Dp K H v d := Rp.dp d v (plain_noDict d (Bool.and_eq_true_iff.mp h).1) r
theorem eqOk_p {d : D} (h : eqOk d = true) : PyData.plain d = true := (Bool.and_eq_true_iff.mp h).1
theorem eqOk_d {d : D} (h : eqOk d = true) : d.depth ≤ 64 := of_decide_eq_true (Bool.and_eq_true_iff.mp h).2
theorem eqOk_ps {ds : List D} (h : eqOk (.list ds) = true) : PyData.plainAll ds = true := by
  have := eqOk_p h
  simpa [PyData.plain] using this
end

/-! ### comparisons -/
section
variable {X : Cx}
def cmpR (K : PySem.W.Frag) (g : D → D → Bool) : R2 := fun x y H Q => ∃ d e, Dp K H x d ∧ Dp K H y e ∧ eqOk d = true ∧ eqOk e = true ∧ Q (.bl (g d e)) H
def memR (K : PySem.W.Frag) (g : Bool → Bool) : R2 := fun x y H Q => ∃ d ds, Dp K H x d ∧ (Dp K H y (.list ds) ∨ Dp K H y (.tuple ds)) ∧ eqOk d = true ∧ eqOk (.list ds) = true ∧ Q (.bl (g (ds.any fun z => PyData.eqv z d))) H
theorem op_eqP (hu : X.A.units + 65 < cLine) : OpR X (compareOp .Eq) (cmpR X.K PyData.eqv) := by
  intro pins s σ H x y v u Q I rx ry h
  obtain ⟨d, e, hd, he, od, oe, q⟩ := h
  obtain ⟨as, r1⟩ := Dp.reads I d x v hd rx
  obtain ⟨bs, r2⟩ := Dp.reads I e y u he ry
  have := eqOk_d od
  exact SeqAt.eq_plain r1 r2 (eqOk_p od) (eqOk_p oe) (by omega) ⟨.bl _, H, I, rfl, q⟩
theorem op_neP (hu : X.A.units + 65 < cLine) : OpR X (compareOp .NotEq) (cmpR X.K fun a b => !PyData.eqv a b) := by
  intro pins s σ H x y v u Q I rx ry h
  obtain ⟨d, e, hd, he, od, oe, q⟩ := h
  obtain ⟨as, r1⟩ := Dp.reads I d x v hd rx
  obtain ⟨bs, r2⟩ := Dp.reads I e y u he ry
  have := eqOk_d od
  exact SeqAt.ne_plain r1 r2 (eqOk_p od) (eqOk_p oe) (by omega) ⟨.bl _, H, I, rfl, q⟩
theorem op_inP (hu : X.A.units + 65 < cLine) : OpR X (compareOp .In) (memR X.K id) := by
  intro pins s σ H x y v u Q I rx ry h
  obtain ⟨d, ds, hd, he, od, oe, q⟩ := h
  obtain ⟨as, r1⟩ := Dp.reads I d x v hd rx
  have l := eqOk_d od
  rcases he with he | he
  · obtain ⟨bs, r2⟩ := Dp.reads I _ y u he ry
    exact SeqAt.in_list_data r2 r1 (eqOk_ps oe) (eqOk_p od) (by omega) ⟨.bl _, H, I, rfl, q⟩
  · obtain ⟨bs, r2⟩ := Dp.reads I _ y u he ry
    exact SeqAt.in_tuple_data r2 r1 (eqOk_ps oe) (eqOk_p od) (by omega) ⟨.bl _, H, I, rfl, q⟩
theorem op_notInP (hu : X.A.units + 65 < cLine) : OpR X (compareOp .NotIn) (memR X.K not) := by
  intro pins s σ H x y v u Q I rx ry h
  obtain ⟨d, ds, hd, he, od, oe, q⟩ := h
  obtain ⟨as, r1⟩ := Dp.reads I d x v hd rx
  have l := eqOk_d od
  rcases he with he | he
  · obtain ⟨bs, r2⟩ := Dp.reads I _ y u he ry
    exact SeqAt.notIn_list_data r2 r1 (eqOk_ps oe) (eqOk_p od) (by omega) ⟨.bl _, H, I, rfl, q⟩
  · obtain ⟨bs, r2⟩ := Dp.reads I _ y u he ry
    exact SeqAt.notIn_tuple_data r2 r1 (eqOk_ps oe) (eqOk_p od) (by omega) ⟨.bl _, H, I, rfl, q⟩
end
theorem cmpF_some {op : CmpOp} {a b d : D} (h : cmpF op a b = some d) : ∃ k, cmpOpD op a b = some k ∧ d = .bool k := by
  unfold cmpF at h
  cases q : cmpOpD op a b with
  | none => rw [q] at h; cases h
  | some k => rw [q] at h; cases h; exact ⟨k, rfl, rfl⟩
section
variable {K : PySem.W.Frag}
theorem opB_eq : OpB K (r2v (cmpR K PyData.eqv)) (f2 (cmpF .Eq)) := by
  refine opB2 fun Hs H x y a b d Q s ra rb e0 q => ?_
  obtain ⟨k, e, rfl⟩ := cmpF_some e0
  clear e0
  simp only [cmpOpD] at e
  split at e
  · rename_i c
    simp only [Bool.and_eq_true] at c
    cases e
    exact ⟨a, b, eqOk_dp c.1 (ra.up s), eqOk_dp c.2 (rb.up s), c.1, c.2, q _ _ _ (.refl s) (.bl _)⟩
  · cases e
theorem opB_ne : OpB K (r2v (cmpR K fun a b => !PyData.eqv a b)) (f2 (cmpF .NotEq)) := by
  refine opB2 fun Hs H x y a b d Q s ra rb e0 q => ?_
  obtain ⟨k, e, rfl⟩ := cmpF_some e0
  clear e0
  simp only [cmpOpD] at e
  split at e
  · rename_i c
    simp only [Bool.and_eq_true] at c
    cases e
    exact ⟨a, b, eqOk_dp c.1 (ra.up s), eqOk_dp c.2 (rb.up s), c.1, c.2, q _ _ _ (.refl s) (.bl _)⟩
  · cases e
theorem eqOk_tl {ds : List D} (h : eqOk (.tuple ds) = true) : eqOk (.list ds) = true := h
def rSg : R2 := fun x y H Q => ∃ (c : Nat) (z : Str), x = .str ⟨#[c]⟩ ∧ y = .str z ∧ Q (.bl (decide (c ∈ z.cps.toList))) H
theorem opB_in : OpB K (r2v (fun x y H Q => memR K id x y H Q ∨ rSg x y H Q)) (f2 (cmpF .In)) := by
  refine opB2 fun Hs H x y a b d Q s ra rb e0 q => ?_
  obtain ⟨k, e, rfl⟩ := cmpF_some e0
  clear e0
  cases b
  case str z =>
    cases a <;> simp only [cmpOpD] at e <;> try (cases e; done)
    rename_i w
    split at e
    · rename_i c
      obtain ⟨cps⟩ := w
      obtain ⟨l⟩ := cps
      have c : l.length = 1 := c
      match l, c with
      | [n], _ =>
        cases e
        cases Rp.str_inv ra; cases Rp.str_inv rb
        exact .inr ⟨n, z, rfl, rfl, q _ _ _ (.refl s) (.bl _)⟩
    · cases e
  case list ds =>
    cases a <;> simp only [cmpOpD] at e <;>
    · split at e
      · rename_i c
        simp only [Bool.and_eq_true] at c
        cases e
        exact .inl ⟨_, _, eqOk_dp c.1 (ra.up s), .inl (eqOk_dp c.2 (rb.up s)), c.1, c.2, q _ _ _ (.refl s) (.bl _)⟩
      · cases e
  case tuple ds =>
    cases a <;> simp only [cmpOpD] at e <;>
    · split at e
      · rename_i c
        simp only [Bool.and_eq_true] at c
        cases e
        exact .inl ⟨_, _, eqOk_dp c.1 (ra.up s), .inr (eqOk_dp c.2 (rb.up s)), c.1, eqOk_tl c.2, q _ _ _ (.refl s) (.bl _)⟩
      · cases e
  all_goals (cases a <;> simp [cmpOpD] at e)
def rNSg : R2 := fun x y H Q => ∃ (c : Nat) (z : Str), x = .str ⟨#[c]⟩ ∧ y = .str z ∧ Q (.bl (!decide (c ∈ z.cps.toList))) H
theorem opB_notIn : OpB K (r2v (fun x y H Q => memR K not x y H Q ∨ rNSg x y H Q)) (f2 (cmpF .NotIn)) := by
  refine opB2 fun Hs H x y a b d Q s ra rb e0 q => ?_
  obtain ⟨k, e, rfl⟩ := cmpF_some e0
  clear e0
  cases b
  case str z =>
    cases a <;> simp only [cmpOpD] at e <;> try (cases e; done)
    rename_i w
    split at e
    · rename_i c
      obtain ⟨cps⟩ := w
      obtain ⟨l⟩ := cps
      have c : l.length = 1 := c
      match l, c with
      | [n], _ =>
        cases e
        cases Rp.str_inv ra; cases Rp.str_inv rb
        exact .inr ⟨n, z, rfl, rfl, q _ _ _ (.refl s) (.bl _)⟩
    · cases e
  case list ds =>
    cases a <;> simp only [cmpOpD] at e <;>
    · split at e
      · rename_i c
        simp only [Bool.and_eq_true] at c
        cases e
        exact .inl ⟨_, _, eqOk_dp c.1 (ra.up s), .inl (eqOk_dp c.2 (rb.up s)), c.1, c.2, q _ _ _ (.refl s) (.bl _)⟩
      · cases e
  case tuple ds =>
    cases a <;> simp only [cmpOpD] at e <;>
    · split at e
      · rename_i c
        simp only [Bool.and_eq_true] at c
        cases e
        exact .inl ⟨_, _, eqOk_dp c.1 (ra.up s), .inr (eqOk_dp c.2 (rb.up s)), c.1, eqOk_tl c.2, q _ _ _ (.refl s) (.bl _)⟩
      · cases e
  all_goals (cases a <;> simp [cmpOpD] at e)
theorem Rp.non_iff {Hs : Hp} {v : V} {d : D} (r : Rp K Hs v d) : decide (v = .non) = isNone d := by
  cases r <;> simp [isNone]
theorem opB_is : OpB K (r2v (fun x y H Q => (y = .non ∧ Q (.bl (decide (x = .non))) H) ∨ rIsB x y H Q)) (f2 (cmpF .Is)) := by
  refine opB2 fun Hs H x y a b d Q s ra rb e0 q => ?_
  obtain ⟨k, e, rfl⟩ := cmpF_some e0
  clear e0
  cases b
  case none =>
    have e' : some (isNone a) = some k := by cases a <;> exact e
    clear e
    cases e'
    refine .inl ⟨rb.none_inv, ?_⟩
    rw [ra.non_iff]
    exact q _ _ _ (.refl s) (.bl _)
  case bool c =>
    cases a <;> simp only [cmpOpD] at e <;> try (cases e; done)
    cases e
    cases ra.bool_inv; cases rb.bool_inv
    exact .inr ⟨_, _, rfl, rfl, q _ _ _ (.refl s) (.bl _)⟩
  all_goals (cases a <;> simp [cmpOpD] at e)
theorem opB_isNot : OpB K (r2v (fun x y H Q => (y = .non ∧ Q (.bl (!decide (x = .non))) H) ∨ rNotB x y H Q)) (f2 (cmpF .IsNot)) := by
  refine opB2 fun Hs H x y a b d Q s ra rb e0 q => ?_
  obtain ⟨k, e, rfl⟩ := cmpF_some e0
  clear e0
  cases b
  case none =>
    have e' : some (!isNone a) = some k := by cases a <;> exact e
    clear e
    cases e'
    refine .inl ⟨rb.none_inv, ?_⟩
    rw [ra.non_iff]
    exact q _ _ _ (.refl s) (.bl _)
  case bool c =>
    cases a <;> simp only [cmpOpD] at e <;> try (cases e; done)
    cases e
    cases ra.bool_inv; cases rb.bool_inv
    exact .inr ⟨_, _, rfl, rfl, q _ _ _ (.refl s) (.bl _)⟩
  all_goals (cases a <;> simp [cmpOpD] at e)
/-- an order on ints and on texts -/
def rOrd (f : Int → Int → Bool) (g : List Nat → List Nat → Bool) : R2 := fun x y H Q => rI0 (fun i j => .bl (f i j)) x y H Q ∨ ∃ i j, x = .str i ∧ y = .str j ∧ Q (.bl (g i.cps.toList j.cps.toList)) H
theorem ord_of {op : CmpOp} {f : Int → Int → Bool} {g : List Nat → List Nat → Bool} {t : Ordering → Bool}
    (hc : ∀ a b, cmpOpD op a b = (cmpD a b).map t)
    (hf : ∀ i j : Int, t (if i < j then .lt else if j < i then .gt else .eq) = f i j) (hg : ∀ x y : Str, t (cmpStr x y) = g x.cps.toList y.cps.toList) : OpB K (r2v (rOrd f g)) (f2 (cmpF op)) := by
  refine opB2 fun Hs H x y a b d Q s ra rb e0 q => ?_
  obtain ⟨k, e, rfl⟩ := cmpF_some e0
  clear e0
  rw [hc] at e
  cases a <;> cases b <;> simp only [cmpD, Option.map_some, Option.map_none] at e <;> try (cases e; done)
  · cases e
    obtain ⟨rfl, rfl⟩ := rp_int2 ra rb
    refine .inl ⟨_, _, rfl, rfl, ?_⟩
    show Q (V.bl (f _ _)) H
    rw [← hf]
    exact q _ _ _ (.refl s) (.bl _)
  · cases e
    cases ra.str_inv; cases rb.str_inv
    refine .inr ⟨_, _, rfl, rfl, ?_⟩
    rw [← hg]
    exact q _ _ _ (.refl s) (.bl _)
theorem lt_asymmL (x y : List Nat) (h : x < y) : ¬ y < x := List.lt_asymm h
theorem opB_lt : OpB K (r2v (rOrd (fun i j => decide (i < j)) fun x y => decide (x < y))) (f2 (cmpF .Lt)) := by
  refine ord_of (t := fun o => o == .lt) (fun a b => rfl) (fun i j => ?_) (fun x y => ?_)
  · split
    · simp [*]
    · split <;> simp [*] <;> omega
  · unfold cmpStr
    split
    · simp [*]
    · split <;> simp [*]
theorem opB_gt : OpB K (r2v (rOrd (fun i j => decide (j < i)) fun x y => decide (y < x))) (f2 (cmpF .Gt)) := by
  refine ord_of (t := fun o => o == .gt) (fun a b => rfl) (fun i j => ?_) (fun x y => ?_)
  · split
    · rename_i h
      have : ¬ j < i := by omega
      simp [this]
    · split <;> simp [*]
  · unfold cmpStr
    split
    · rename_i h
      have := lt_asymmL _ _ h
      simp [this]
    · split <;> simp [*]
theorem opB_le : OpB K (r2v (rOrd (fun i j => decide (i ≤ j)) fun x y => !decide (y < x))) (f2 (cmpF .LtE)) := by
  refine ord_of (t := fun o => o != .gt) (fun a b => rfl) (fun i j => ?_) (fun x y => ?_)
  · split
    · rename_i h
      have : i ≤ j := by omega
      simp [this]
    · split
      · rename_i h
        have : ¬ i ≤ j := by omega
        simp [this]
      · have : i ≤ j := by omega
        simp [this]
  · unfold cmpStr
    split
    · rename_i h
      have := lt_asymmL _ _ h
      simp [this]
    · split <;> simp [*]
theorem opB_ge : OpB K (r2v (rOrd (fun i j => decide (j ≤ i)) fun x y => !decide (x < y))) (f2 (cmpF .GtE)) := by
  refine ord_of (t := fun o => o != .lt) (fun a b => rfl) (fun i j => ?_) (fun x y => ?_)
  · split
    · rename_i h
      have : ¬ j ≤ i := by omega
      simp [this]
    · split
      · rename_i h
        have : j ≤ i := by omega
        simp [this]
      · have : j ≤ i := by omega
        simp [this]
  · unfold cmpStr
    split
    · simp [*]
    · split <;> simp [*]
theorem op_cmp {X : Cx} (hu : X.A.units + 65 < cLine) (op : CmpOp) : ∃ r : R2, OpR X (compareOp op) r ∧ OpB X.K (r2v r) (f2 (cmpF op)) := by
  cases op
  · exact ⟨_, op_eqP hu, opB_eq⟩
  · exact ⟨_, op_neP hu, opB_ne⟩
  · exact ⟨_, op_lt.or op_lt_str, opB_lt⟩
  · exact ⟨_, op_le.or op_le_str, opB_le⟩
  · exact ⟨_, op_gt.or op_gt_str, opB_gt⟩
  · exact ⟨_, op_ge.or op_ge_str, opB_ge⟩
  · exact ⟨_, op_isN.or op_isBl, opB_is⟩
  · exact ⟨_, op_notN.or op_notBl, opB_isNot⟩
  · exact ⟨_, (op_inP hu).or op_in_sign, opB_in⟩
  · exact ⟨_, (op_notInP hu).or op_notIn_sign, opB_notIn⟩
end

/-! ### items -/
section
variable {K : PySem.W.Frag} {Hs : Hp}
theorem RpAll.atI {vs : List V} {ds : List D} {i : Int} {d : D} (r : RpAll K Hs vs ds) (h : L2.atI ds i = some d) : ∃ v, L2.atI vs i = some v ∧ Rp K Hs v d := by
  unfold L2.atI at h ⊢
  rw [r.length]
  cases q : L2.ixN ds.length i with
  | none => rw [q] at h; cases h
  | some j =>
    rw [q] at h
    exact r.get h
def rDIx : R2 := fun x y H Q => ∃ a v, x = .ref a ∧ DGet H a y (some v) ∧ Q v H
theorem ix_dict {X : Cx} (hu : X.A.units + 1 < cLine) : IxR X rDIx := by
  intro value slice pins s σ H x y v u Q I rx ry h hs
  obtain ⟨a, w, rfl, g, q⟩ := h
  cases rx
  exact tail_any (dict_typeIs I g) PySem.F.slot_dict_getitem.lookup (d_getItem hu I g ry fun w' s3 I3 rw' => ⟨w, H, I3, rw', q⟩) hs
theorem keyD_inj {k j : Key} : keyD k = keyD j → k = j := by
  cases k <;> cases j <;> simp [keyD]
theorem eqv_keyD (k j : Key) : PyData.eqv (keyD k) (keyD j) = decide (k = j) := by
  cases k <;> cases j <;> simp only [keyD, PyData.eqv]
  · rename_i a b; by_cases h : a = b <;> simp [h]
  · simp
  · simp
  · rename_i a b; by_cases h : a = b <;> simp [h]
theorem valV_cons {k j : Key} {v : V} {kvs : List (Key × V)} : valV ((j, v) :: kvs) k = if j = k then some v else valV kvs k := by
  unfold valV
  rw [List.find?_cons]
  by_cases h : j = k <;> simp [h]
theorem keyOk_of {d : D} (h : keyOk d = true) : ∃ k : Key, d = keyD k ∧ ∀ {Hs : Hp} {v : V}, Rp K Hs v d → v = kV k := by
  cases d <;> simp [keyOk] at h
  · exact ⟨.inl _, rfl, fun r => r.int_inv⟩
  · exact ⟨.inr _, rfl, fun r => r.str_inv⟩
theorem lookD_rp {Hs : Hp} {k : Key} : ∀ {kvs : List (Key × V)} {ds : List (D × D)}, RpKv K Hs kvs ds → match lookD (keyD k) ds with
    | some d => ∃ v, valV kvs k = some v ∧ Rp K Hs v d
    | none => valV kvs k = none
  | _, _, .nil => rfl
  | _, _, .cons (k := j) (v := v) (d := d) a r => by
    have ih := lookD_rp (k := k) r
    rw [lookD, eqv_keyD, valV_cons]
    by_cases h : j = k
    · simp only [h, decide_true, if_true]
      exact ⟨v, rfl, a⟩
    · simp only [h, decide_false, if_false]
      exact ih
theorem RpR.dict {H : Hp} {v : V} {ds : List (D × D)} (s : Same Hs H) (h : RpR K Hs H v (.dict ds)) : ∃ a kvs, v = .ref a ∧ Rd H a (.dK kvs) ∧ RpKv K Hs kvs ds := by
  rcases h with h | ⟨_, _, _, _, h, _⟩ | ⟨a, kvs, _, rfl, h, e, r⟩
  · cases h with
    | dct q r => exact ⟨_, _, rfl, rd_mono s q, r⟩
  · cases h
  · cases h
    exact ⟨a, kvs, rfl, .inl e, r⟩
theorem opA_idx : OpA K (r2v (fun x y H Q => rIx K x y H Q ∨ rDIx x y H Q)) (f2 idxD) := by
  refine opA2 fun Hs H x y a b d Q s ra rb e q => ?_
  cases a
  case dict ds =>
    simp only [idxD] at e
    split at e
    · rename_i c
      obtain ⟨k, rfl, kv⟩ := keyOk_of (K := K) c
      obtain ⟨p, kvs, rfl, h, r⟩ := ra.dict s
      have l := lookD_rp (k := k) r
      rw [e] at l
      obtain ⟨v, l1, l2⟩ := l
      have ey : y = kV k := by
        cases k with
        | inl i => exact rb.int
        | inr z => exact rb.str
      exact .inr ⟨p, v, rfl, .inl ⟨kvs, k, h, ey, l1.symm⟩, q _ _ _ (.refl s) l2⟩
    · cases e
  all_goals (cases b <;> simp only [idxD] at e <;> try (cases e; done))
  · split at e
    · rename_i c
      cases ra.str; cases rb.int
      rename_i z i
      cases q2 : L2.atI z.cps.toList i with
      | none => rw [show Pv.atI z.cps.toList i = L2.atI z.cps.toList i from rfl, q2] at e; cases e
      | some k =>
        rw [show Pv.atI z.cps.toList i = L2.atI z.cps.toList i from rfl, q2] at e
        cases e
        exact .inl (.inr (.inr ⟨_, _, k, rfl, rfl, sline_eq ▸ c, q2, q _ _ _ (.refl s) (.str _)⟩))
    · cases e
  · obtain ⟨p, vs, rfl, h, r⟩ := ra.list s
    cases rb.int
    obtain ⟨v, h1, h2⟩ := r.atI e
    exact .inl (.inl ⟨p, vs, _, v, rfl, rfl, h, h1, q _ _ _ (.refl s) h2⟩)
  · obtain ⟨p, vs, rfl, h, r, _⟩ := ra.tuple s
    cases rb.int
    obtain ⟨v, h1, h2⟩ := r.atI e
    exact .inl (.inr (.inl ⟨p, vs, _, v, rfl, rfl, h, h1, q _ _ _ (.refl s) h2⟩))
end

/-! ### slices -/
theorem cut_rp {K : PySem.W.Frag} {Hs : Hp} {vs : List V} {ds : List D} (lo hi : Option Int) (r : RpAll K Hs vs ds) : RpAll K Hs (cutV vs lo hi) (cut ds lo hi) := by
  unfold cutV cut
  rw [r.length]
  exact (r.drop _).take _
def rSl (K : PySem.W.Frag) : V → Option Int → Option Int → Hp → VK → Prop := fun x lo hi H Q => rSlL K x lo hi H Q ∨ rSlA K x lo hi H Q ∨ rSlS x lo hi H Q
theorem sl_all {X : Cx} : SlR X (rSl X.K) := sl_list.or (sl_tupA.or sl_str)
theorem opA_slc {K : PySem.W.Frag} (lo hi : Option Int) : OpA K (r1v fun x H Q => rSl K x lo hi H Q) (f1 fun p => slcD p lo hi) := by
  refine opA1 fun Hs H x a d Q s ra e q => ?_
  cases a <;> simp only [slcD] at e <;> try (cases e; done)
  · split at e
    · rename_i c
      cases e
      cases ra.str
      exact .inr (.inr ⟨_, rfl, sline_eq ▸ c, q _ _ _ (.refl s) (.str _)⟩)
    · cases e
  · cases e
    obtain ⟨p, vs, rfl, h, r⟩ := ra.list s
    refine .inl ⟨p, vs, rfl, h, fun p' n => ?_⟩
    have x := Ext.laid (o := .lst (cutV vs lo hi)) s n
    exact q _ _ _ x (.lst (.of upd_same) ((cut_rp lo hi r).up x.hs))
  · cases e
    obtain ⟨p, vs, rfl, h, r, h0⟩ := ra.tuple s
    refine .inr (.inl ⟨p, vs, rfl, h, fun z => ?_, fun _ p' n => ?_⟩)
    · have e : cut vs lo hi = vs := by
        unfold cut
        rw [z.1, z.2]
        simp
      have e' := cut_rp lo hi r
      rw [show cutV vs lo hi = cut vs lo hi from rfl, e] at e'
      exact q _ _ _ (.refl s) (.tup h0 e')
    · have x := Ext.laid (o := .tup (cutV vs lo hi)) s n
      exact q _ _ _ x (.tup (.of upd_same) ((cut_rp lo hi r).up x.hs))

/-! ### built-in functions -/
section
variable {K : PySem.W.Frag}
theorem RpR.lenv {Hs H : Hp} {v : V} {d : D} {n : Int} (s : Same Hs H) (r : Rp K Hs v d) (e : biD .len [d] = some (.int n)) : ∃ k : Nat, LenV K v H k ∧ n = k := by
  cases d <;> simp only [biD] at e <;> try (cases e; done)
  · split at e
    · rename_i c
      cases e
      cases r.str_inv
      exact ⟨_, ⟨sline_eq ▸ c, rfl⟩, rfl⟩
    · cases e
  · cases e
    obtain ⟨a, vs, rfl, h, r⟩ := r.list_inv
    exact ⟨_, .inl ⟨vs, sqL_mono s h, rfl⟩, by rw [r.length]⟩
  · cases e
    obtain ⟨a, vs, rfl, h, r⟩ := r.tuple_inv
    exact ⟨_, .inr ⟨vs, sqT_mono s h, rfl⟩, by rw [r.length]⟩
theorem biD_len {ds : List D} {d : D} (h : biD .len ds = some d) : ∃ a n, ds = [a] ∧ d = .int n := by
  match ds, h with
  | [.list xs], h => simp [biD] at h; exact ⟨_, _, rfl, h.symm⟩
  | [.tuple xs], h => simp [biD] at h; exact ⟨_, _, rfl, h.symm⟩
  | [.str x], h =>
    simp only [biD] at h
    split at h
    · cases h; exact ⟨_, _, rfl, rfl⟩
    · cases h
theorem opB_len : OpB K (fun xs H Q => ∃ x n, xs = [x] ∧ LenV K x H n ∧ Q (.int n) H) (biD .len) := by
  intro Hs H vs ds d Q s R e q
  obtain ⟨a, n, rfl, rfl⟩ := biD_len e
  obtain ⟨x, rfl, ra⟩ := R.one
  obtain ⟨k, h1, rfl⟩ := RpR.lenv s ra e
  exact ⟨x, k, rfl, h1, q _ _ _ (.refl s) (.int _)⟩
theorem opB_abs : OpB K (fun xs H Q => ∃ i, xs = [.int i] ∧ Q (.int (if i < 0 then -i else i)) H) (biD .abs) := by
  intro Hs H vs ds d Q s R e q
  match ds, e, R with
  | [.int i], e, R =>
    cases e
    obtain ⟨x, rfl, ra⟩ := R.one
    cases ra.int_inv
    exact ⟨_, rfl, q _ _ _ (.refl s) (.int _)⟩
theorem opB_max2 : OpB K (fun xs H Q => ∃ i j, xs = [.int i, .int j] ∧ Q (.int (if j > i then j else i)) H) (biD .max2) := by
  intro Hs H vs ds d Q s R e q
  match ds, e, R with
  | [.int i, .int j], e, R =>
    cases e
    obtain ⟨x, y, rfl, ra, rb⟩ := R.two
    cases ra.int_inv; cases rb.int_inv
    exact ⟨_, _, rfl, q _ _ _ (.refl s) (.int _)⟩
theorem opB_min2 : OpB K (fun xs H Q => ∃ i j, xs = [.int i, .int j] ∧ Q (.int (if j < i then j else i)) H) (biD .min2) := by
  intro Hs H vs ds d Q s R e q
  match ds, e, R with
  | [.int i, .int j], e, R =>
    cases e
    obtain ⟨x, y, rfl, ra, rb⟩ := R.two
    cases ra.int_inv; cases rb.int_inv
    exact ⟨_, _, rfl, q _ _ _ (.refl s) (.int _)⟩
theorem opB_int1 : OpB K (fun xs H Q => (∃ i, xs = [.int i] ∧ Q (.int i) H) ∨ ∃ k, xs = [.bl k] ∧ Q (.int (if k then 1 else 0)) H) (biD .int1) := by
  intro Hs H vs ds d Q s R e q
  match ds, e, R with
  | [.int i], e, R =>
    cases e
    obtain ⟨x, rfl, ra⟩ := R.one
    cases ra.int_inv
    exact .inl ⟨_, rfl, q _ _ _ (.refl s) (.int _)⟩
  | [.bool b], e, R =>
    cases e
    obtain ⟨x, rfl, ra⟩ := R.one
    cases ra.bool_inv
    exact .inr ⟨_, rfl, q _ _ _ (.refl s) (.int _)⟩
theorem opA_tuple1 : OpA K (fun xs H Q => ∃ p ys, xs = [.ref p] ∧ ((SqL K H p ys ∧ ∀ l, H l = none → Q (.ref l) (upd H l (.tup ys))) ∨ (SqT K H p ys ∧ Q (.ref p) H))) (biD .tuple1) := by
  intro Hs H vs ds d Q s R e q
  match ds, e, R with
  | [.list xs], e, R =>
    cases e
    obtain ⟨x, rfl, ra⟩ := R.one
    obtain ⟨p, vs, rfl, h, r⟩ := ra.list s
    refine ⟨p, vs, rfl, .inl ⟨h, fun l n => ?_⟩⟩
    have x := Ext.laid (o := .tup vs) s n
    exact q _ _ _ x (.tup (.of upd_same) (r.up x.hs))
  | [.tuple xs], e, R =>
    cases e
    obtain ⟨x, rfl, ra⟩ := R.one
    obtain ⟨p, vs, rfl, h, r, h0⟩ := ra.tuple s
    exact ⟨p, vs, rfl, .inr ⟨h, q _ _ _ (.refl s) (.tup h0 r)⟩⟩
theorem opA_list1 : OpA K (fun xs H Q => ∃ p ys, xs = [.ref p] ∧ (SqL K H p ys ∨ SqT K H p ys) ∧ ∀ l, H l = none → Q (.ref l) (upd H l (.lst ys))) (biD .list1) := by
  intro Hs H vs ds d Q s R e q
  match ds, e, R with
  | [.list xs], e, R =>
    cases e
    obtain ⟨x, rfl, ra⟩ := R.one
    obtain ⟨p, vs, rfl, h, r⟩ := ra.list s
    refine ⟨p, vs, rfl, .inl h, fun l n => ?_⟩
    have x := Ext.laid (o := .lst vs) s n
    exact q _ _ _ x (.lst (.of upd_same) (r.up x.hs))
  | [.tuple xs], e, R =>
    cases e
    obtain ⟨x, rfl, ra⟩ := R.one
    obtain ⟨p, vs, rfl, h, r, h0⟩ := ra.tuple s
    refine ⟨p, vs, rfl, .inr h, fun l n => ?_⟩
    have x := Ext.laid (o := .lst vs) s n
    exact q _ _ _ x (.lst (.of upd_same) (r.up x.hs))
theorem toInts_rp {Hs : Hp} : ∀ {ds : List D} {ns : List Int} {vs : List V}, toInts ds = some ns → RpAll K Hs vs ds → vs = ns.map V.int
  | [], ns, vs, h, r => by cases h; cases r; rfl
  | .int i :: ds, ns, vs, h, r => by
    simp only [toInts, Option.map_eq_some_iff] at h
    obtain ⟨l, h, rfl⟩ := h
    cases r with
    | cons a r => cases a.int_inv; rw [toInts_rp h r]; rfl
theorem toBools_rp {Hs : Hp} : ∀ {ds : List D} {ns : List Bool} {vs : List V}, toBools ds = some ns → RpAll K Hs vs ds → vs = ns.map V.bl
  | [], ns, vs, h, r => by cases h; cases r; rfl
  | .bool i :: ds, ns, vs, h, r => by
    simp only [toBools, Option.map_eq_some_iff] at h
    obtain ⟨l, h, rfl⟩ := h
    cases r with
    | cons a r => cases a.bool_inv; rw [toBools_rp h r]; rfl
theorem toStrs_rp {Hs : Hp} : ∀ {ds : List D} {ns : List Str} {vs : List V}, toStrs ds = some ns → RpAll K Hs vs ds → vs = ns.map V.str
  | [], ns, vs, h, r => by cases h; cases r; rfl
  | .str i :: ds, ns, vs, h, r => by
    simp only [toStrs, Option.map_eq_some_iff] at h
    obtain ⟨l, h, rfl⟩ := h
    cases r with
    | cons a r => cases a.str_inv; rw [toStrs_rp h r]; rfl
theorem opB_sum1 : OpB K (rSum K) (biD .sum1) := by
  intro Hs H vs ds d Q s R e q
  match ds, e, R with
  | [.list xs], e, R =>
    simp only [biD, Option.map_eq_some_iff] at e
    obtain ⟨is, h, rfl⟩ := e
    obtain ⟨x, rfl, ra⟩ := R.one
    obtain ⟨p, vs, rfl, hl, r⟩ := ra.list_inv
    cases toInts_rp h r
    exact ⟨p, is, rfl, sqL_mono s hl, q _ _ _ (.refl s) (.int _)⟩
def rStr1 : RV := fun xs H Q => (∃ i, xs = [.int i] ∧ i.natAbs.log2 < 1920 ∧ Q (.str (toString i)) H) ∨ ∃ a, xs = [.str a] ∧ Q (.str a) H
theorem callR_or {X : Cx} {f : Value} {r r' : RV} (h : CallR X f r) (h' : CallR X f r') : CallR X f (fun xs H Q => r xs H Q ∨ r' xs H Q) := by
  intro pins s σ H xs us Q I rv q
  rcases q with q | q
  · exact h pins s σ H xs us Q I rv q
  · exact h' pins s σ H xs us Q I rv q
theorem opB_str1 : OpB K rStr1 (biD .str1) := by
  intro Hs H vs ds d Q s R e q
  match ds, e, R with
  | [.int i], e, R =>
    simp only [biD] at e
    split at e
    · rename_i c
      cases e
      obtain ⟨x, rfl, ra⟩ := R.one
      cases ra.int_inv
      exact .inl ⟨_, rfl, c, q _ _ _ (.refl s) (.str _)⟩
    · cases e
  | [.str x], e, R =>
    cases e
    obtain ⟨x, rfl, ra⟩ := R.one
    cases ra.str_inv
    exact .inr ⟨_, rfl, q _ _ _ (.refl s) (.str _)⟩
theorem opB_all : OpB K (rAll K) (biD .all1) := by
  intro Hs H vs ds d Q s R e q
  match ds, e, R with
  | [.list xs], e, R =>
    simp only [biD, Option.map_eq_some_iff] at e
    obtain ⟨bs, h, rfl⟩ := e
    obtain ⟨x, rfl, ra⟩ := R.one
    obtain ⟨p, vs, rfl, hl, r⟩ := ra.list_inv
    cases toBools_rp h r
    exact ⟨p, bs, rfl, sqL_mono s hl, q _ _ _ (.refl s) (.bl _)⟩
theorem opB_any : OpB K (rAny K) (biD .any1) := by
  intro Hs H vs ds d Q s R e q
  match ds, e, R with
  | [.list xs], e, R =>
    simp only [biD, Option.map_eq_some_iff] at e
    obtain ⟨bs, h, rfl⟩ := e
    obtain ⟨x, rfl, ra⟩ := R.one
    obtain ⟨p, vs, rfl, hl, r⟩ := ra.list_inv
    cases toBools_rp h r
    exact ⟨p, bs, rfl, sqL_mono s hl, q _ _ _ (.refl s) (.bl _)⟩
theorem opB_max1 : OpB K (rMax K) (biD .max1) := by
  intro Hs H vs ds d Q s R e q
  match ds, e, R with
  | [.list xs], e, R =>
    simp only [biD, Option.bind_eq_some_iff] at e
    obtain ⟨is, h, e⟩ := e
    obtain ⟨x, rfl, ra⟩ := R.one
    obtain ⟨p, vs, rfl, hl, r⟩ := ra.list_inv
    cases toInts_rp h r
    cases is with
    | nil => cases e
    | cons a is =>
      cases e
      refine ⟨p, a :: is, rfl, sqL_mono s hl, by simp, fun m hm hb => ?_⟩
      rw [maxI_eq hm hb]
      exact q _ _ _ (.refl s) (.int _)
theorem opB_min1 : OpB K (rMin K) (biD .min1) := by
  intro Hs H vs ds d Q s R e q
  match ds, e, R with
  | [.list xs], e, R =>
    simp only [biD, Option.bind_eq_some_iff] at e
    obtain ⟨is, h, e⟩ := e
    obtain ⟨x, rfl, ra⟩ := R.one
    obtain ⟨p, vs, rfl, hl, r⟩ := ra.list_inv
    cases toInts_rp h r
    cases is with
    | nil => cases e
    | cons a is =>
      cases e
      refine ⟨p, a :: is, rfl, sqL_mono s hl, by simp, fun m hm hb => ?_⟩
      rw [minI_eq hm hb]
      exact q _ _ _ (.refl s) (.int _)
theorem nuMax2_int (i j : Int) : nuMax2 (.int i) (.int j) = some (.int (if i < j then j else i)) := by
  show (some (decide (i < j))).map _ = _
  by_cases h : i < j <;> simp [h]
theorem nuMin2_int (i j : Int) : nuMin2 (.int i) (.int j) = some (.int (if j < i then j else i)) := by
  show (some (decide (j < i))).map _ = _
  by_cases h : j < i <;> simp [h]
theorem opB_max3 : OpB K (rNuC3 nuMax3) (biD .max3) := by
  intro Hs H vs ds d Q s R e q
  match ds, e, R with
  | [.int i, .int j, .int k], e, R =>
    cases e
    cases R with
    | cons ra R => cases R with
      | cons rb R => cases R with
        | cons rc R =>
          cases R
          cases ra.int_inv; cases rb.int_inv; cases rc.int_inv
          refine ⟨_, _, _, _, rfl, ?_, q _ _ _ (.refl s) (.int _)⟩
          unfold nuMax3
          rw [nuMax2_int]
          show nuMax2 _ _ = _
          rw [nuMax2_int]
theorem opB_min3 : OpB K (rNuC3 nuMin3) (biD .min3) := by
  intro Hs H vs ds d Q s R e q
  match ds, e, R with
  | [.int i, .int j, .int k], e, R =>
    cases e
    cases R with
    | cons ra R => cases R with
      | cons rb R => cases R with
        | cons rc R =>
          cases R
          cases ra.int_inv; cases rb.int_inv; cases rc.int_inv
          refine ⟨_, _, _, _, rfl, ?_, q _ _ _ (.refl s) (.int _)⟩
          unfold nuMin3
          rw [nuMin2_int]
          show nuMin2 _ _ = _
          rw [nuMin2_int]
theorem ints_rp {Hs : Hp} : ∀ ns : List Int, RpAll K Hs (ns.map V.int) (ns.map PyData.int)
  | [] => .nil
  | n :: ns => .cons (.int n) (ints_rp ns)
theorem opB_divmod : OpA K (fun xs H Q => ∃ i j, xs = [.int i, .int j] ∧ CDiv i j ∧ ∀ p, H p = none → Q (.ref p) (upd H p (.tup [.int (i / j), .int (i % j)]))) (biD .divmod2) := by
  intro Hs H vs ds d Q s R e q
  match ds, e, R with
  | [.int i, .int j], e, R =>
    simp only [biD] at e
    split at e
    · rename_i c
      cases e
      obtain ⟨x, y, rfl, ra, rb⟩ := R.two
      cases ra.int; cases rb.int
      refine ⟨i, j, rfl, c, fun p n => ?_⟩
      have x := Ext.laid (o := .tup [.int (i / j), .int (i % j)]) s n
      exact q _ _ _ x (.tup (.of upd_same) (.cons (.int _) (.cons (.int _) .nil)))
    · cases e
/-- the modules' dict stands in the known part -/
def SysK (K : PySem.W.Frag) : Prop := ∃ o, K.lookup sysModules = some o ∧ o.cls = .type "dict"
theorem readsAll_pairs {X : Cx} {h : Heap} : ∀ {kvs : List (Key × V)} {vs : List (Key × Value)} {es : List DictEntry}, KV kvs vs → Pairs (mixKind X.prog X.w) es vs →
    (∃ as, ReadsAll h (es.map (·.key)) (kvs.map fun kv => keyD kv.1) as ∧ as = []) ∧ Vals (kvs.map (·.2)) (es.map (·.val))
  | _, _, _, .nil, .nil => ⟨⟨_, .nil, rfl⟩, .nil⟩
  | _, _, _, .cons (a := kv) (b := q) h1 r, .cons (e := e) h2 h3 p => by
    obtain ⟨⟨as, ra, ea⟩, rv⟩ := readsAll_pairs (h := h) r p
    obtain ⟨e1, rl⟩ := h1
    refine ⟨⟨_, ?_, rfl⟩, ?_⟩
    · subst ea
      have hk : keyIs q.1 e.key = true := h2
      rw [← e1] at hk
      rw [List.map_cons, List.map_cons]
      rcases keyIs_shape hk with ⟨i, t, ek, ev⟩ | ⟨x, t, ek, ev⟩
      · rw [ev, ek]; exact ReadsAll.cons (as := []) (bs := []) (Reads.int i t) ra
      · rw [ev, ek]; exact ReadsAll.cons (as := []) (bs := []) (Reads.str x t) ra
    · rw [List.map_cons, List.map_cons, h3]
      exact .cons rl rv
theorem rpkv_split {H : Hp} : ∀ {kvs : List (Key × V)} {ds : List (D × D)}, RpKv K H kvs ds → ds.map (·.1) = kvs.map (fun kv => keyD kv.1) ∧ RpAll K H (kvs.map (·.2)) (ds.map (·.2))
  | _, _, .nil => ⟨rfl, .nil⟩
  | _, _, .cons a r => by
    obtain ⟨e, q⟩ := rpkv_split r
    exact ⟨by rw [List.map_cons, List.map_cons, e], .cons a q⟩
section
variable {X : Cx} {pins : List (Addr × Obj)} {σ : L2.St} {H : Hp} {s : Shared}
theorem not_sys {h : Heap} (hs : ∃ o, h.get? sysModules = some o ∧ o.cls = .type "dict") {a : Addr} {o : Obj} {T : String} (e : h.get? a = some o) (c : o.cls = .type T) (n : T ≠ "dict") : sysModules ≠ a := by
  intro z
  obtain ⟨o', e', c'⟩ := hs
  rw [z, e] at e'
  cases e'
  rw [c] at c'
  injection c' with c'
  exact n c'
mutual
theorem Rp.reads (I : L2.Inv X pins σ H s) (hs : ∃ o, s.heap.get? sysModules = some o ∧ o.cls = .type "dict") : ∀ (d : D) (v : V) (u : Value), Rp X.K H v d → RelV v u → ∃ as, Reads s.heap u d as ∧ sysModules ∉ as
  | .none, _, _, h, r => by
    cases h
    cases r
    exact ⟨_, Reads.none, by simp⟩
  | .bool b, _, _, h, r => by
    cases h
    cases r
    exact ⟨_, Reads.bool b, by simp⟩
  | .int i, _, _, h, r => by
    cases h
    obtain ⟨t, rfl⟩ := r
    exact ⟨_, Reads.int i t, by simp⟩
  | .str x, _, _, h, r => by
    cases h
    obtain ⟨t, rfl⟩ := r
    exact ⟨_, Reads.str x t, by simp⟩
  | .list ds, _, _, h, r => by
    cases h with
    | lst hq ha =>
      cases r
      obtain ⟨its, rv, ⟨o, n, ho, hc, _, hd⟩, _⟩ := I.list hq
      obtain ⟨as, hr, na⟩ := Rp.readsAll I hs ds _ its ha rv
      refine ⟨_, Reads.list ho hc hd hr, fun z => ?_⟩
      rcases List.mem_cons.mp z with z | z
      · exact not_sys hs ho hc (by decide) z
      · exact na z
  | .tuple ds, _, _, h, r => by
    cases h with
    | tup hq ha =>
      cases r
      obtain ⟨its, rv, ⟨o, ho, hc, n, hd⟩, _⟩ := I.tuple hq
      obtain ⟨as, hr, na⟩ := Rp.readsAll I hs ds _ its ha rv
      exact ⟨_, Reads.tuple ho hc hd hr, na⟩
  | .dict ds, _, _, h, r => by
    cases h with
    | dct hq ha =>
      rename_i a kvs
      cases r
      obtain ⟨_, hsys, vs, rel, o, es, ep, ho, hx, hd, _, hp, _⟩ := dk_rd I.hok hq
      obtain ⟨⟨as, ra, rfl⟩, rv⟩ := readsAll_pairs (X := X) (h := s.heap) rel hp
      obtain ⟨e1, e2⟩ := rpkv_split ha
      obtain ⟨bs, rb, nb⟩ := Rp.readsAllKv I hs ds _ _ ha rv
      refine ⟨_, Reads.dict ho hx.1 hd (by rw [e1]; exact ra) rb, fun z => ?_⟩
      rcases List.mem_cons.mp z with z | z
      · rw [← z] at hsys; simp at hsys
      · exact nb z
theorem Rp.readsAll (I : L2.Inv X pins σ H s) (hs : ∃ o, s.heap.get? sysModules = some o ∧ o.cls = .type "dict") : ∀ (ds : List D) (vs : List V) (us : List Value), RpAll X.K H vs ds → Vals vs us → ∃ as, ReadsAll s.heap us ds as ∧ sysModules ∉ as
  | [], _, _, h, r => by
    cases h
    cases r
    exact ⟨_, ReadsAll.nil, by simp⟩
  | d :: ds, _, _, h, r => by
    cases h with
    | cons h1 h2 =>
      cases r with
      | cons r1 r2 =>
        obtain ⟨as, q1, n1⟩ := Rp.reads I hs d _ _ h1 r1
        obtain ⟨bs, q2, n2⟩ := Rp.readsAll I hs ds _ _ h2 r2
        exact ⟨_, ReadsAll.cons q1 q2, by simp [n1, n2]⟩
theorem Rp.readsAllKv (I : L2.Inv X pins σ H s) (hs : ∃ o, s.heap.get? sysModules = some o ∧ o.cls = .type "dict") : ∀ (ds : List (D × D)) (kvs : List (Key × V)) (us : List Value), RpKv X.K H kvs ds → Vals (kvs.map (·.2)) us → ∃ as, ReadsAll s.heap us (ds.map (·.2)) as ∧ sysModules ∉ as
  | [], _, _, h, r => by
    cases h
    cases r
    exact ⟨_, ReadsAll.nil, by simp⟩
  | (_, d) :: ds, _, _, h, r => by
    cases h with
    | cons h1 h2 =>
      cases r with
      | cons r1 r2 =>
        obtain ⟨as, q1, n1⟩ := Rp.reads I hs d _ _ h1 r1
        obtain ⟨bs, q2, n2⟩ := Rp.readsAllKv I hs ds _ _ h2 r2
        exact ⟨_, ReadsAll.cons q1 q2, by simp [n1, n2]⟩
end
end
/-- repr of data -/
def rRepr (K : PySem.W.Frag) : RV := fun xs H Q => ∃ x d, xs = [x] ∧ Rp K H x d ∧ d.showable = true ∧ d.shown.length ≤ sizeLine ∧ d.depth ≤ 60 ∧ Q (.str d.shown) H
theorem call_repr {X : Cx} (hk : SysK X.K) (hu : X.A.units + 65 < cLine) (hg : X.A.guards = some []) : CallR X (.builtin "repr") (rRepr X.K) := by
  intro pins s σ H xs us Q I r h
  obtain ⟨x, d, rfl, dp, h1, h3, h4, q⟩ := h
  obtain ⟨u, rfl, rx⟩ := vals1 r
  obtain ⟨o, e, c⟩ := hk
  obtain ⟨as, rd, hn⟩ := Rp.reads I ⟨o, I.kIn _ _ e, c⟩ d x u dp rx
  cases rd with
  | none => exact PySem.P.repr_of_none ⟨.str _, H, I.tok _, ⟨_, rfl⟩, q⟩
  | bool b => exact PySem.P.repr_of_bool ⟨.str _, H, I.tok _, ⟨_, rfl⟩, q⟩
  | int i t => exact PySem.P.repr_of_int (by simpa [PyData.showable] using h1) ⟨.str _, H, I.tok _, ⟨_, rfl⟩, q⟩
  | str y t => exact PySem.P.repr_of_str ⟨.str _, H, I.tok _, ⟨_, rfl⟩, q⟩ h3
  | list a b c e =>
    exact repr_of_reads' (.list a b c e) h1 (fun z => hn) hg (by omega) (fun _ _ e => e) (fun h' u tk k => ⟨.str _, H, I.kept k, ⟨_, rfl⟩, q⟩) h3
  | tuple a b c e =>
    exact repr_of_reads' (.tuple a b c e) h1 (fun z => hn) hg (by omega) (fun _ _ e => e) (fun h' u tk k => ⟨.str _, H, I.kept k, ⟨_, rfl⟩, q⟩) h3
  | dict a b c e f =>
    exact repr_of_reads' (.dict a b c e f) h1 (fun z => hn) hg (by omega) (fun _ _ e => e) (fun h' u tk k => ⟨.str _, H, I.kept k, ⟨_, rfl⟩, q⟩) h3
theorem opB_repr : OpB K (rRepr K) (biD .repr1) := by
  intro Hs H vs ds d Q s R e q
  match ds, e, R with
  | [a], e, R =>
    simp only [biD] at e
    split at e
    · rename_i c
      cases e
      simp only [Bool.and_eq_true, decide_eq_true_eq] at c
      obtain ⟨x, rfl, ra⟩ := R.one
      exact ⟨x, a, rfl, ra.up s, c.1.1, sline_eq ▸ c.1.2, c.2, q _ _ _ (.refl s) (.str _)⟩
    · cases e
/-! ### sorted -/
theorem each_of {K : PySem.W.Frag} {H : Hp} : ∀ {xs : List V} {us : List Value} {ds : List D}, Vals xs us → RpAll K H xs ds → PySem.W.EachIs (fun (u : Value) (p : V × D) => RelV p.1 u ∧ Rp K H p.1 p.2) us (xs.zip ds)
  | _, _, _, .nil, .nil => .nil
  | _, _, _, .cons a r, .cons b s => .cons ⟨a, b⟩ (each_of r s)
theorem each_to {K : PySem.W.Frag} {H : Hp} : ∀ {us : List Value} {bs : List (V × D)}, PySem.W.EachIs (fun (u : Value) (p : V × D) => RelV p.1 u ∧ Rp K H p.1 p.2) us bs → Vals (bs.map (·.1)) us ∧ RpAll K H (bs.map (·.1)) (bs.map (·.2))
  | _, _, .nil => ⟨.nil, .nil⟩
  | _, _, .cons a r => ⟨.cons a.1 (each_to r).1, .cons a.2 (each_to r).2⟩
theorem zip_snd {K : PySem.W.Frag} {H : Hp} {xs : List V} {ds : List D} (r : RpAll K H xs ds) : (xs.zip ds).map (·.2) = ds := List.map_snd_zip (by rw [r.length]; exact Nat.le_refl _)
/-- sorted by its items' own order -/
def rSortT (K : PySem.W.Frag) (b : Bool) : RV := fun vs H Q => ∃ (l : Addr) (xs : List V) (Hs : Hp) (ds : List D), vs = [.ref l] ∧ SqL K H l xs ∧ Same Hs H ∧ RpAll K Hs xs ds ∧ srtOk ds = true ∧
  ∀ ys p, RpAll K Hs ys (ds.mergeSort (PySem.W.dataLe b fun d => d)) → H p = none → Q (.ref p) (upd H p (.lst ys))
theorem srtOk_inv {ds : List D} (h : srtOk ds = true) : PySem.W.AllAlike ds ∧ PySem.W.Sortable ds ∧ ∀ d ∈ ds, d.depth ≤ 60 := by
  unfold srtOk at h
  rw [List.all_eq_true] at h
  refine ⟨fun d hd d' hd' => ?_, .inl fun d hd => ?_, fun d hd => ?_⟩
  · have := h d hd
    simp only [Bool.and_eq_true, List.all_eq_true] at this
    exact this.2 d' hd'
  · have := h d hd
    simp only [Bool.and_eq_true] at this
    have h1 := this.1.1
    split at h1
    · exact ⟨_, _, rfl⟩
    · cases h1
  · have := h d hd
    simp only [Bool.and_eq_true, decide_eq_true_eq] at this
    exact this.1.2
theorem sort_snd (le : D → D → Bool) (bs : List (V × D)) : (bs.mergeSort fun p q => le p.2 q.2).map (·.2) = (bs.map (·.2)).mergeSort le := List.map_mergeSort fun _ _ _ _ => rfl
theorem call_sortT {X : Cx} (hk : SysK X.K) (hu : X.A.units + 65 < cLine) : CallR X (.builtin "sorted") (rSortT X.K false) := by
  intro pins s σ H vs us Q I r h
  obtain ⟨l, xs, Hs, ds, rfl, hl, sm, rp, ok, q⟩ := h
  obtain ⟨al, so, dp⟩ := srtOk_inv ok
  obtain ⟨o, ek, ec⟩ := hk
  rw [Vals.ref1 r]
  obtain ⟨its, rv, pl, hz⟩ := I.list hl
  have e := each_of rv rp
  have es := zip_snd rp
  refine PySem.W.sorted_data (enc := fun p : V × D => p.2) pl.isList e (e.mono fun u p q => ?_) (by rw [es]; exact al) (by rw [es]; exact so) ?_ (fun p hp => ?_) fun out hlen eo => ?_
  · obtain ⟨as, rd, _⟩ := Rp.reads I ⟨o, I.kIn _ _ ek, ec⟩ p.2 p.1 u (q.2.up sm) q.1
    exact ⟨as, rd⟩
  · rw [List.length_zip, ← rp.length, Nat.min_self]; exact hz
  · have := dp p.2 (by rw [← es]; exact List.mem_map_of_mem hp)
    omega
  · obtain ⟨v1, r1⟩ := each_to eo
    obtain ⟨ep, he'⟩ := PyProof.Rows.sortedAll_at s.heap its (List.toArray out)
    have ed : (((xs.zip ds).mergeSort (PySem.W.dataLe false fun p : V × D => p.2)).map (·.2)) = ds.mergeSort (PySem.W.dataLe false fun d => d) := by
      have z := sort_snd (PySem.W.dataLe false fun d => d) (xs.zip ds)
      rw [es] at z
      exact z
    rw [ed] at r1
    have hlen2 : (((xs.zip ds).mergeSort (PySem.W.dataLe false fun p : V × D => p.2)).map (·.1)).length ≤ sizeLine := by
      rw [List.length_map, List.length_mergeSort, List.length_zip, ← rp.length, Nat.min_self]; exact hz
    exact ⟨.ref _, upd H (s.heap.objs.size + 1) (.lst _), I.laid (t' := s.toks) (fun _ _ => PyProof.Rows.sortedAll_old) (Nat.le_succ _) ⟨hlen2, out, ep, v1, he'⟩, rfl, q _ _ r1 (I.hok.fresh (Nat.le_succ _))⟩
theorem call_sortR {X : Cx} (hk : SysK X.K) (hu : X.A.units + 65 < cLine) : CallRK X (.builtin "sorted") [Str.ofString "reverse"] (fun vs zs H Q => zs = [.bl true] ∧ rSortT X.K true vs H Q) := by
  intro pins s σ H vs zs us ws Q I r rz h
  obtain ⟨rfl, l, xs, Hs, ds, rfl, hl, sm, rp, ok, q⟩ := h
  obtain ⟨al, so, dp⟩ := srtOk_inv ok
  obtain ⟨o, ek, ec⟩ := hk
  rw [Vals.ref1 r]
  obtain ⟨w1, rfl, e1⟩ := vals1 rz
  obtain rfl : w1 = Value.bool true := e1
  obtain ⟨its, rv, pl, hz⟩ := I.list hl
  have e := each_of rv rp
  have es := zip_snd rp
  refine PySem.W.sorted_rev_data (b := true) (enc := fun p : V × D => p.2) pl.isList e (e.mono fun u p q => ?_) (by rw [es]; exact al) (by rw [es]; exact so) ?_ (fun p hp => ?_) fun out hlen eo => ?_
  · obtain ⟨as, rd, _⟩ := Rp.reads I ⟨o, I.kIn _ _ ek, ec⟩ p.2 p.1 u (q.2.up sm) q.1
    exact ⟨as, rd⟩
  · rw [List.length_zip, ← rp.length, Nat.min_self]; exact hz
  · have := dp p.2 (by rw [← es]; exact List.mem_map_of_mem hp)
    omega
  · obtain ⟨v1, r1⟩ := each_to eo
    obtain ⟨ep, he'⟩ := PyProof.Rows.sortedAll_at s.heap its (List.toArray out)
    have ed : (((xs.zip ds).mergeSort (PySem.W.dataLe true fun p : V × D => p.2)).map (·.2)) = ds.mergeSort (PySem.W.dataLe true fun d => d) := by
      have z := sort_snd (PySem.W.dataLe true fun d => d) (xs.zip ds)
      rw [es] at z
      exact z
    rw [ed] at r1
    have hlen2 : (((xs.zip ds).mergeSort (PySem.W.dataLe true fun p : V × D => p.2)).map (·.1)).length ≤ sizeLine := by
      rw [List.length_map, List.length_mergeSort, List.length_zip, ← rp.length, Nat.min_self]; exact hz
    exact ⟨.ref _, upd H (s.heap.objs.size + 1) (.lst _), I.laid (t' := s.toks) (fun _ _ => PyProof.Rows.sortedAll_old) (Nat.le_succ _) ⟨hlen2, out, ep, v1, he'⟩, rfl, q _ _ r1 (I.hok.fresh (Nat.le_succ _))⟩
theorem opN_sorted1 {K : PySem.W.Frag} : OpN K (fun xs H Q => rSortedI K xs H Q ∨ rSortT K false xs H Q) (biD .sorted1) := by
  intro Hs H vs ds d Q s R e q
  match ds, e, R with
  | [.list xs], e, R =>
    have e : srtD xs = some d := e
    obtain ⟨x, rfl, ra⟩ := R.one
    obtain ⟨p, vs, rfl, hl, r⟩ := ra.list s
    unfold srtD at e
    split at e
    · rename_i is h
      cases e
      cases toInts_rp h r
      exact .inl ⟨p, is, rfl, hl, fun ns' p' pm hs n => by rw [sortD_eq pm hs]; exact q p' _ _ n rfl (ints_rp _)⟩
    · unfold srtTD at e
      split at e
      · rename_i ok
        cases e
        exact .inr ⟨p, vs, Hs, xs, rfl, hl, s, r, ok, fun ys p' ry n => q p' ys _ n rfl ry⟩
      · cases e
theorem opN_sortedR {K : PySem.W.Frag} : OpN K (rSortT K true) (biD .sortedR) := by
  intro Hs H vs ds d Q s R e q
  match ds, e, R with
  | [.list xs], e, R =>
    have e : srtTD true xs = some d := e
    obtain ⟨x, rfl, ra⟩ := R.one
    obtain ⟨p, vs, rfl, hl, r⟩ := ra.list s
    unfold srtTD at e
    split at e
    · rename_i ok
      cases e
      exact ⟨p, vs, Hs, xs, rfl, hl, s, r, ok, fun ys p' ry n => q p' ys _ n rfl ry⟩
    · cases e
theorem opN_list1 {K : PySem.W.Frag} : OpN K (fun xs H Q => ∃ p ys, xs = [.ref p] ∧ (SqL K H p ys ∨ SqT K H p ys) ∧ ∀ l, H l = none → Q (.ref l) (upd H l (.lst ys))) (biD .list1) := by
  intro Hs H vs ds d Q s R e q
  match ds, e, R with
  | [.list xs], e, R =>
    cases e
    obtain ⟨x, rfl, ra⟩ := R.one
    obtain ⟨p, vs, rfl, h, r⟩ := ra.list s
    exact ⟨p, vs, rfl, .inl h, fun l n => q l vs _ n rfl r⟩
  | [.tuple xs], e, R =>
    cases e
    obtain ⟨x, rfl, ra⟩ := R.one
    obtain ⟨p, vs, rfl, h, r, h0⟩ := ra.tuple s
    exact ⟨p, vs, rfl, .inr h, fun l n => q l vs _ n rfl r⟩
theorem sorted_mut {f : Bf} (hf : f = .sorted1 ∨ f = .sortedR ∨ f = .list1 ∨ ∃ k, f = .srtK k) : ∀ ds d, biD f ds = some d → immut d = false := by
  intro ds d e
  rcases hf with rfl | rfl | rfl | ⟨k, rfl⟩
  · match ds, e with
    | [.list xs], e =>
      have e : srtD xs = some d := e
      unfold srtD at e
      split at e
      · cases e; rfl
      · unfold srtTD at e; split at e
        · cases e; rfl
        · cases e
  · match ds, e with
    | [.list xs], e =>
      have e : srtTD true xs = some d := e
      unfold srtTD at e; split at e
      · cases e; rfl
      · cases e
  · match ds, e with
    | [.list xs], e => cases e; rfl
    | [.tuple xs], e => cases e; rfl
  · match ds, e with
    | [.list xs], e =>
      have e : srtKD k xs = some d := e
      unfold srtKD at e; split at e
      · cases e; rfl
      · cases e
/-- the built-ins that are served: the name, whether a class -/
def biN : Bf → Option (Str × Bool × String)
  | .len => some ("len", false, "len")
  | .abs => some ("abs", false, "abs")
  | .max2 => some ("max", false, "max")
  | .min2 => some ("min", false, "min")
  | .int1 => some ("int", true, "int")
  | .tuple1 => some ("tuple", true, "tuple")
  | .list1 => some ("list", true, "list")
  | .sum1 => some ("sum", false, "sum")
  | .str1 => some ("str", true, "str")
  | .repr1 => some ("repr", false, "repr")
  | .all1 => some ("all", false, "all")
  | .any1 => some ("any", false, "any")
  | .max1 => some ("max", false, "max")
  | .min1 => some ("min", false, "min")
  | .max3 => some ("max", false, "max")
  | .min3 => some ("min", false, "min")
  | .sorted1 => some ("sorted", false, "sorted")
  | .divmod2 => some ("divmod", false, "divmod")
  | _ => none
def biV (c : Bool) (n : String) : Value := if c then .type n else .builtin n
theorem bi_call {X : Cx} (hc : X.calm = true) (hk : SysK X.K) (hu : X.A.units + 65 < cLine) (hg : X.A.guards = some []) {f : Bf} {x : Str} {c : Bool} {n : String} (h : biN f = some (x, c, n)) :
    bootBuiltins x = some (biV c n) ∧ x ≠ "__name__" ∧ (x == ("__debug__" : Str)) = false ∧ ∃ r, CallR X (biV c n) r ∧ (rootBi f = true → OpA X.K r (biD f)) ∧ OpB X.K r (biD f) := by
  cases f <;> first | (cases h; done) | (cases h; refine ⟨by decide +kernel, by decide +kernel, by decide +kernel, ?_⟩)
  · exact ⟨_, call_len, (fun h => nomatch h), opB_len⟩
  · exact ⟨_, call_abs, (fun h => nomatch h), opB_abs⟩
  · exact ⟨_, call_max2 hc, (fun h => nomatch h), opB_max2⟩
  · exact ⟨_, call_min2 hc, (fun h => nomatch h), opB_min2⟩
  · exact ⟨_, call_int1, (fun h => nomatch h), opB_int1⟩
  · exact ⟨_, callR_or call_str_int SkE.call_str_str, (fun h => nomatch h), opB_str1⟩
  · exact ⟨_, call_repr hk hu hg, (fun h => nomatch h), opB_repr⟩
  · exact ⟨_, call_tuple_of, fun _ => opA_tuple1, opA_tuple1.b⟩
  · exact ⟨_, call_list_of, fun _ => opA_list1, opA_list1.b⟩
  · exact ⟨_, callR_or cr_sortedI (call_sortT hk hu), fun _ => opN_sorted1.a, opN_sorted1.a.b⟩
  · exact ⟨_, cr_sum hc, (fun h => nomatch h), opB_sum1⟩
  · exact ⟨_, cr_all hc, (fun h => nomatch h), opB_all⟩
  · exact ⟨_, cr_any hc, (fun h => nomatch h), opB_any⟩
  · exact ⟨_, cr_max hc, (fun h => nomatch h), opB_max1⟩
  · exact ⟨_, cr_min hc, (fun h => nomatch h), opB_min1⟩
  · exact ⟨_, call_divmod, fun _ => opB_divmod, opB_divmod.b⟩
  · exact ⟨_, call_max3Nu hc, (fun h => nomatch h), opB_max3⟩
  · exact ⟨_, call_min3Nu hc, (fun h => nomatch h), opB_min3⟩
end

/-- those that make a new list -/
def newB : Bf → Bool
  | .sorted1 | .list1 => true
  | _ => false
theorem bi_callN {X : Cx} (hk : SysK X.K) (hu : X.A.units + 65 < cLine) {f : Bf} {x : Str} {c : Bool} {n : String} (h : biN f = some (x, c, n)) (hn : newB f = true) :
    bootBuiltins x = some (biV c n) ∧ x ≠ "__name__" ∧ (x == ("__debug__" : Str)) = false ∧ ∃ r, CallR X (biV c n) r ∧ OpN X.K r (biD f) ∧ ∀ ds d, biD f ds = some d → immut d = false := by
  cases f <;> first | (cases hn; done) | (cases h; refine ⟨by decide +kernel, by decide +kernel, by decide +kernel, ?_⟩)
  · exact ⟨_, call_list_of, opN_list1, sorted_mut (.inr (.inr (.inl rfl)))⟩
  · exact ⟨_, callR_or cr_sortedI (call_sortT hk hu), opN_sorted1, sorted_mut (.inl rfl)⟩

/-! ### methods -/
section
variable {K : PySem.W.Frag}
abbrev RM := V → List V → Hp → VK → Prop
def rJoin (K : PySem.W.Frag) : RM := fun x xs H Q => ∃ a p, ∃ ys : List Str, x = .str a ∧ xs = [.ref p] ∧ (SqL K H p (ys.map V.str) ∨ SqT K H p (ys.map V.str)) ∧
    (ys.map (·.length)).sum + ys.length * a.length ≤ 16777216 ∧ Q (.str (Txt.join a ys)) H
theorem opB_join {a : Str} : OpB K (fun xs H Q => rJoin K (.str a) xs H Q) (meD .join (.str a)) := by
  intro Hs H vs ds d Q s R e q
  match ds, e, R with
  | [.list xs], e, R =>
    simp only [meD, Option.bind_eq_some_iff] at e
    obtain ⟨ss, h, e⟩ := e
    split at e
    · rename_i c
      cases e
      obtain ⟨y, rfl, rb⟩ := R.one
      obtain ⟨p, vs, rfl, hl, r⟩ := rb.list_inv
      cases toStrs_rp h r
      exact ⟨a, p, ss, rfl, rfl, .inl (sqL_mono s hl), c, q _ _ _ (.refl s) (.str _)⟩
    · cases e
end
end Pv

/-! PvS4: the text's facts, the context, expressions. -/
namespace Pv
open PySem PySem.Spec PyProof.Rows L2
variable [TabC]

/-- how a def is called: the def, how many written by place, the keywords' names, what fills each parameter -/
structure Fm where
  f : Nat
  np : Nat
  ks : List Str
  src : List Sr
structure Txt where
  cls : Nat → Option (Addr × Option Str)
  gl : List Str
  fn : List Str
  nb : List Str
  fms : List Fm
  lam : List Str
def Txt.tx (T : Txt) : Tx := ⟨T.cls⟩
/-- a scalar's value -/
def immV : D → Option V
  | .none => some .non
  | .bool b => some (.bl b)
  | .int i => some (.int i)
  | .str x => some (.str x)
  | _ => none
theorem immV_rp {K : PySem.W.Frag} {H : Hp} {d : D} {v : V} (h : immV d = some v) : Rp K H v d := by
  cases d <;> simp [immV] at h <;> subst h
  · exact .non
  · exact .bl _
  · exact .int _
  · exact .str _
/-- the parameters' values zs, filled from the written ones us -/
def SrcV : List Sr → List Value → List Value → Prop
  | [], _, [] => True
  | .ar j :: r, us, z :: zs => us[j]? = some z ∧ SrcV r us zs
  | .df d :: r, us, z :: zs => (∃ v, immV d = some v ∧ RelV v z) ∧ SrcV r us zs
  | _, _, _ => False

structure FnG (P : Program) (w : World) (K : PySem.W.Frag) (mg : Str → Option Value) (base : Heap) (k : Nat) (f : Addr) (fd : FuncData) (ps : List Str) (sp : Sp) : Prop where
  len : ∀ vs H Q E, sp vs H Q E → vs.length = ps.length
  run : ∀ (A : Around) (outer : List Env) (s : Shared) (H : Hp) (args : Args) (us : List Value) (vs : List V) (Q : VK) (E : XK), Room k A → A.guards = some [] → Env0 P w K mg base A outer s H → BindsTo s fd args (ps.zip us) → Vals vs us → sp vs H Q E →
    codeAny (model P w) A (.call (.ref f) args) (L2.CR (L2.CX P w) outer P w H s Q E) s

/-- l is new, one's own, no slot's -/
structure Fre (A : Nat → List Addr) (H : Hp) (A' : Nat → List Addr) (Hs' : Hp) (l : List Addr) : Prop where
  nd : l.Nodup
  hs : ∀ a ∈ l, Hs' a = none
  dj : ∀ i, ∀ a ∈ l, a ∉ A' i
  new : ∀ a ∈ l, (∃ j, a ∈ A j) ∨ H a = none
theorem Fre.nil {A A' : Nat → List Addr} {H Hs' : Hp} : Fre A H A' Hs' [] := ⟨List.nodup_nil, fun _ h => (nomatch h), fun _ _ h => (nomatch h), fun _ h => (nomatch h)⟩

/-- def f's promise: what the interpreter tells -/
def spF (T : Txt) (K : PySem.W.Frag) (P : Pr) (k f : Nat) : Sp := fun vs H Q E => ∃ Hs ea A, Rel K (vs.map some) Hs H ea A ∧ match run P k f ea with
  | .ok m d o => ∀ v H' Hs' A' l, Stp A Hs H A' Hs' H' → Rel K (vs.map some) Hs' H' o A' → Own K Hs' H' m v d l → Fre A H A' Hs' l → Q v H'
  | .ex x o => ∀ H' Hs' A' cls dx, Stp A Hs H A' Hs' H' → Rel K (vs.map some) Hs' H' o A' → XnRep T.tx K Hs' H' x cls dx → E cls dx H'
  | .bad => False

structure Facts (T : Txt) (P : Pr) (prog : Program) (w : World) (K : PySem.W.Frag) (mg : Str → Option Value) (base : Heap) (k : Nat) : Prop where
  nb : ∀ x ∈ T.nb, mg x = none
  gl : ∀ (g : Nat) x d, T.gl[g]? = some x → P.G[g]? = some d → (∀ kvs, d ≠ .dict kvs) → ∃ v u, mg x = some u ∧ RelV v u ∧ ∀ H, Rp K H v d
  kd : ∀ (g : Nat) x kvs, T.gl[g]? = some x → P.G[g]? = some (.dict kvs) → ∃ d es n, mg x = some (.ref d) ∧ KDict K w d es n ∧
    ∀ z, match kfind z kvs with
      | none => PySem.W.nsIn K d z = some none
      | some r => ∃ u v, PySem.W.nsIn K d z = some (some u) ∧ RelV v u ∧ ∀ H, Rp K H v r
  fn : ∀ (f : Nat) x, T.fn[f]? = some x → ∃ a fd ps, mg x = some (.ref a) ∧ PySem.W.keepIn K (.ref a) = true ∧ FnG prog w K mg base k a fd ps (spF T K P k f) ∧
    ∀ fm ∈ T.fms, fm.f = f → ∀ (s : Shared) (us ws : List Value), K.In s.heap → us.length = fm.np → ws.length = fm.ks.length → ∃ zs, BindsTo s fd ⟨us, fm.ks.zip ws⟩ (ps.zip zs) ∧ SrcV fm.src (us ++ ws) zs
  sys : SysK K

/-- where one stands -/
structure Cz (T : Txt) (P : Pr) (k : Nat) (N : List Str) (sc : Scope) (W : WX) (X : Cx) : Prop where
  hN : X.N = N
  nd : N.Nodup
  hsc : X.env.scope = sc
  calm : X.calm = true
  tk : Takes X W
  room : Room k X.A
  gd : X.A.guards = some []
  fx : Facts T P X.prog X.w X.K X.mg X.base k
section
variable {T : Txt} {P : Pr} {k : Nat} {N : List Str} {sc : Scope} {W : WX} {X : Cx}
theorem Cz.hu (C : Cz T P k N sc W X) : X.A.units + 65 < cLine := by have := C.room.un; omega
end

/-- what a def's lambdas ask -/
def LamT (X : Cx) : Prop := ∃ c P, X.env.code = .ref c ∧ LamX.TabB X.base X.mg c P ∧ (P, X.env.qual ++ "<lambda>") ∈ TabC.T ∧ ∀ p ∈ TabC.T, p.1 = P → p.2 = X.env.qual ++ "<lambda>"
def isLoc (sc : Scope) (x : Str) : Bool := match sc.names.lookup x with
  | some .local => true
  | some .cell => true
  | _ => false
def isVis (sc : Scope) (x : Str) : Bool := match sc.names.lookup x with
  | some .local => true
  | some .cell => true
  | some .free => true
  | _ => false
def isGl (sc : Scope) (x : Str) : Bool := match sc.names.lookup x with
  | some .globalImplicit => true
  | _ => false
theorem isVis_vis {sc : Scope} {x : Str} (h : isVis sc x = true) : Vis sc x := by
  unfold isVis at h
  split at h <;> first | (rename_i e; first | exact .inl e | exact .inr (.inl e) | exact .inr (.inr e)) | cases h
theorem isGl_gl {X : Cx} {sc : Scope} {x : Str} (e : X.env.scope = sc) (h : isGl sc x = true) : Gl X x := by
  unfold isGl at h
  split at h
  · rename_i e'
    show X.env.scope.names.lookup x = _
    rw [e]; exact e'
  · cases h
def plainName (x : Str) : Bool := !(x == ("__debug__" : Str)) && !(x == ("__classdict__" : Str)) && !(x == ("__name__" : Str))
theorem plainName_1 {x : Str} (h : plainName x = true) : (x == ("__debug__" : Str)) = false := by
  unfold plainName at h; simp only [Bool.and_eq_true, Bool.not_eq_true'] at h; exact h.1.1
theorem plainName_2 {x : Str} (h : plainName x = true) : (x == ("__classdict__" : Str)) = false := by
  unfold plainName at h; simp only [Bool.and_eq_true, Bool.not_eq_true'] at h; exact h.1.2
theorem plainName_3 {x : Str} (h : plainName x = true) : x ≠ "__name__" := by
  unfold plainName at h; simp only [Bool.and_eq_true, Bool.not_eq_true', beq_eq_false_iff_ne] at h; exact h.2

section
variable {T : Txt} {P : Pr} {k : Nat} {N : List Str} {sc : Scope} {W : WX} {X : Cx}
abbrev cnOf (P : Pr) (k : Nat) : Cn := ⟨P.G, P.W, run P k⟩

/-! ### names, constants -/
theorem pv_lit {e : Expr} {d : D} {v : V} (hv : immV d = some v) (h : PE X e (tC v)) : PE X e (tA T.tx X.K W (M.ret (.val d))) := by
  refine h.mono fun σ H Q q => ?_
  obtain ⟨Hs, e, A, R, g⟩ := q
  exact g v H Hs A .refl R (immV_rp hv)
theorem Pst_v1 {T : Tx} {K : PySem.W.Frag} {A : Nat → List Addr} {Hs H : Hp} {m : M D} {e : En} {g : AV → En → Prop} (h : Pst T K W A Hs H (v1 m e) g) : Pst T K W A Hs H (m e) fun d e' => g (.val d) e' := h.bind
theorem rdS_inv {i : Nat} {e : En} {T : Tx} {K : PySem.W.Frag} {A : Nat → List Addr} {Hs H : Hp} {g : D → En → Prop} (h : Pst T K W A Hs H (rdS i e) g) : ∃ d, e[i]? = some (.sh d) ∧ g d e := by
  unfold rdS at h
  split at h
  · rename_i d hi
    exact ⟨d, hi, h⟩
  · exact h.elim
theorem rdO_inv {i : Nat} {e : En} {T : Tx} {K : PySem.W.Frag} {A : Nat → List Addr} {Hs H : Hp} {g : Nat × D → En → Prop} (h : Pst T K W A Hs H (rdO i e) g) : ∃ m d, e[i]? = some (.ow m d) ∧ g (m, d) e := by
  unfold rdO at h
  split at h
  · rename_i m d hi
    exact ⟨m, d, hi, h⟩
  · exact h.elim
theorem valM_inv {a : AV} {e : En} {T : Tx} {K : PySem.W.Frag} {A : Nat → List Addr} {Hs H : Hp} {g : D → En → Prop} (h : Pst T K W A Hs H (valM a e) g) : ∃ d, a = .val d ∧ g d e := by
  cases a with
  | val d => exact ⟨d, rfl, h⟩
  | own i => exact h.elim
theorem ofO_inv {α : Type} {o : Option α} {e : En} {T : Tx} {K : PySem.W.Frag} {A : Nat → List Addr} {Hs H : Hp} {g : α → En → Prop} (h : Pst T K W A Hs H (ofO o e) g) : ∃ d, o = some d ∧ g d e := by
  unfold ofO at h
  cases o with
  | some d => exact ⟨d, rfl, h⟩
  | none => exact h.elim
theorem boolM_inv {d : D} {e : En} {T : Tx} {K : PySem.W.Frag} {A : Nat → List Addr} {Hs H : Hp} {g : Bool → En → Prop} (h : Pst T K W A Hs H (boolM d e) g) : ∃ b, d = .bool b ∧ g b e := by
  cases d <;> first | exact ⟨_, rfl, h⟩ | exact h.elim
theorem pv_var (C : Cz T P k N sc W X) {i : Nat} {x : Str} {pos : Pos} (h1 : N[i]? = some x) (h2 : isVis sc x = true) (h3 : plainName x = true) :
    PE X (.Name x pos) (tA T.tx X.K W (v1 (rdS i))) := by
  refine (pe_var (by rw [C.hN]; exact h1) (by rw [C.hsc]; exact isVis_vis h2) (plainName_1 h3) (plainName_2 h3)).mono fun σ H Q q => ?_
  obtain ⟨Hs, e, A, R, g⟩ := q
  obtain ⟨d, hi, g⟩ := rdS_inv (Pst_v1 g)
  obtain ⟨v, hv, r⟩ := R.sh i d hi
  exact ⟨v, hv, g v H Hs A .refl R r⟩
theorem pv_own (C : Cz T P k N sc W X) {i : Nat} {x : Str} {pos : Pos} (h1 : N[i]? = some x) (h2 : isVis sc x = true) (h3 : plainName x = true) :
    PE X (.Name x pos) (tA T.tx X.K W (do let _ ← rdO i; M.ret (.own i))) := by
  refine (pe_var (by rw [C.hN]; exact h1) (by rw [C.hsc]; exact isVis_vis h2) (plainName_1 h3) (plainName_2 h3)).mono fun σ H Q q => ?_
  obtain ⟨Hs, e, A, R, g⟩ := q
  obtain ⟨m, d, hi, g⟩ := rdO_inv (Pst.bind g)
  obtain ⟨v, hv, r⟩ := R.ow i m d hi
  exact ⟨v, hv, g v H Hs A .refl R hv⟩
/-- an own container is shared from now on -/
theorem Rel.frz {K : PySem.W.Frag} {σ : L2.St} {Hs H : Hp} {e : En} {A : Nat → List Addr} (R : Rel K σ Hs H e A) {i m : Nat} {d : D} (hi : e[i]? = some (.ow m d)) :
    ∃ Hs' A', Stp A Hs H A' Hs' H ∧ Rel K σ Hs' H (e.set i (.sh d)) A' ∧ ∃ v, σ[i]? = some (some v) ∧ Rp K Hs' v d := by
  classical
  obtain ⟨v, hv, o⟩ := R.ow i m d hi
  have il : i < e.length := (List.getElem?_eq_some_iff.mp hi).1
  let Hs' : Hp := fun a => match Hs a with
    | some u => some u
    | none => if a ∈ A i then H a else none
  have s1 : Same Hs Hs' := fun a u h => by show Hs' a = _; simp only [Hs', h]
  have s2 : Same Hs' H := fun a u h => by
    have h : (match Hs a with | some u => some u | none => if a ∈ A i then H a else none) = some u := h
    cases q : Hs a with
    | some w => rw [q] at h; cases h; exact R.sub _ _ q
    | none =>
      rw [q] at h
      simp only at h
      split at h
      · exact h
      · cases h
  have e1 : ∀ a ∈ A i, Hs' a = H a := fun a ha => by
    show (match Hs a with | some u => some u | none => if a ∈ A i then H a else none) = H a
    rw [R.fr i a ha]
    exact if_pos ha
  have e2 : ∀ a, a ∉ A i → Hs a = none → Hs' a = none := fun a ha h => by
    show (match Hs a with | some u => some u | none => if a ∈ A i then H a else none) = none
    rw [h]
    exact if_neg ha
  have rp := Own.rp s1 m e1 o
  refine ⟨Hs', fun j => if j = i then [] else A j, ⟨s1, fun a u h _ _ => h, fun j a h => ?_, fun a h => ?_, fun _ _ h => h⟩, ⟨by simpa using R.len, s2, fun j d' h => ?_, fun j m' d' h => ?_, fun j => ?_, fun j j' a h1 h2 => ?_, fun j a h => ?_, fun j h => ?_, R.tb, fun a t => e2 a (fun z => (let ⟨_, q1, q2⟩ := R.own_some z; isTab.noc R.tb q1 q2 t)) (R.nt a t)⟩, v, hv, rp⟩
  · split at h
    · cases h
    · exact .inl ⟨j, h⟩
  · by_cases q : Hs a = none
    · by_cases ha : a ∈ A i
      · exact .inr (.inl ⟨i, ha⟩)
      · exact absurd (e2 a ha q) h
    · exact .inl q
  · by_cases hj : j = i
    · subst hj
      rw [List.getElem?_set_self il] at h
      cases h
      exact ⟨v, hv, rp⟩
    · rw [List.getElem?_set_ne (Ne.symm hj)] at h
      obtain ⟨w, a, b⟩ := R.sh j d' h
      exact ⟨w, a, b.up s1⟩
  · by_cases hj : j = i
    · subst hj
      rw [List.getElem?_set_self il] at h
      cases h
    · rw [List.getElem?_set_ne (Ne.symm hj)] at h
      obtain ⟨w, a, b⟩ := R.ow j m' d' h
      refine ⟨w, a, ?_⟩
      simp only [hj, if_false]
      exact Own.mono s1 m' (fun _ _ _ h => h) b
  · show (if j = i then [] else A j).Nodup
    split
    · exact List.nodup_nil
    · exact R.nd j
  · split at h1
    · cases h1
    · split at h2
      · cases h2
      · exact R.dj _ _ a h1 h2
  · split at h
    · cases h
    · rename_i hj
      exact e2 a (fun z => hj (R.dj _ _ a h z)) (R.fr j a h)
  · show (if j = i then [] else A j) = []
    split
    · rfl
    · rename_i hj
      exact R.em j fun m' d' z => h m' d' (by rw [List.getElem?_set_ne (Ne.symm hj)]; exact z)
theorem pv_frz (C : Cz T P k N sc W X) {i : Nat} {x : Str} {pos : Pos} (h1 : N[i]? = some x) (h2 : isVis sc x = true) (h3 : plainName x = true) :
    PE X (.Name x pos) (tA T.tx X.K W (do let p ← rdO i; wr i (.sh p.2); M.ret (.val p.2))) := by
  refine (pe_var (by rw [C.hN]; exact h1) (by rw [C.hsc]; exact isVis_vis h2) (plainName_1 h3) (plainName_2 h3)).mono fun σ H Q q => ?_
  obtain ⟨Hs, e, A, R, g⟩ := q
  obtain ⟨m, d, hi, g⟩ := rdO_inv (Pst.bind g)
  obtain ⟨Hs', A', s, R', v, hv, r⟩ := R.frz hi
  exact ⟨v, hv, g v H Hs' A' s R' r⟩
theorem pv_glb (C : Cz T P k N sc W X) {g : Nat} {x : Str} {pos : Pos} (h1 : T.gl[g]? = some x) (h2 : isGl sc x = true) (h3 : plainName x = true) (h4 : ∀ d, P.G[g]? = some d → ∀ kvs, d ≠ .dict kvs) :
    PE X (.Name x pos) (tA T.tx X.K W (v1 (ofO P.G[g]?))) := by
  cases q : P.G[g]? with
  | none =>
    refine ⟨fun pins s σ H Q I h => ?_⟩
    obtain ⟨Hs, e, A, R, z⟩ := h
    exact z.elim
  | some d =>
    obtain ⟨v, u, hm, r, rp⟩ := C.fx.gl g x d h1 q (h4 d q)
    refine ⟨fun pins s σ H Q I h => ?_⟩
    obtain ⟨Hs, e, A, R, z⟩ := h
    exact ld_glob I (isGl_gl C.hsc h2) hm ⟨v, H, I, r, z v H Hs A .refl R (rp _)⟩ (plainName_1 h3)
end

/-! ### operations -/
section
variable {T : Txt} {P : Pr} {k : Nat} {N : List Str} {sc : Scope} {W : WX} {X : Cx}
theorem AVrs.two {K : PySem.W.Frag} {σ : L2.St} {Hs : Hp} {x y : V} {a b : AV} (h1 : AVr K σ Hs x a) (h2 : AVr K σ Hs y b) : AVrs K σ Hs [x, y] [a, b] := .cons h1 (.cons h2 .nil)
theorem AVrs.one {K : PySem.W.Frag} {σ : L2.St} {Hs : Hp} {x : V} {a : AV} (h1 : AVr K σ Hs x a) : AVrs K σ Hs [x] [a] := .cons h1 .nil
/-- the first part is run; what is wanted of the rest stands -/
theorem at_bind {T : Tx} {K : PySem.W.Frag} {α β ω : Type} {ρ : L2.St → Hp → Hp → ω → α → Prop} {σ : L2.St} {Hs H : Hp} {e : En} {A : Nat → List Addr} {m : M α} {k : α → M β} {good : β → En → Prop} {Q1 : ω → Hp → Prop}
    (R : Rel K σ Hs H e A) (P : Pst T K W A Hs H ((m e).bind k) good)
    (f : ∀ (v : ω) (a : α) (e' : En) (Hs' H' : Hp) (A' : Nat → List Addr), Stp A Hs H A' Hs' H' → Rel K σ Hs' H' e' A' → ρ σ Hs' H' v a → Pst T K W A' Hs' H' (k a e') good → Q1 v H') : tM T K W ρ m σ H Q1 :=
  ⟨Hs, e, A, R, P.bind.imp fun a e' P' v H' Hs' A' s' R' r' => f v a e' Hs' H' A' s' R' r' (P'.later s')⟩
theorem at_run {T : Tx} {K : PySem.W.Frag} {α ω : Type} {ρ : L2.St → Hp → Hp → ω → α → Prop} {σ : L2.St} {Hs H : Hp} {e : En} {A : Nat → List Addr} {m : M α} {good : α → En → Prop} {Q1 : ω → Hp → Prop}
    (R : Rel K σ Hs H e A) (P : Pst T K W A Hs H (m e) good)
    (f : ∀ (v : ω) (a : α) (e' : En) (Hs' H' : Hp) (A' : Nat → List Addr), Stp A Hs H A' Hs' H' → Rel K σ Hs' H' e' A' → ρ σ Hs' H' v a → good a e' → Q1 v H') : tM T K W ρ m σ H Q1 :=
  ⟨Hs, e, A, R, P.imp fun a e' P' v H' Hs' A' s' R' r' => f v a e' Hs' H' A' s' R' r' P'⟩
/-- two parts, then an operation on both -/
theorem use2 {r : R2} {f : D → D → Option D} {fresh : Bool} {ma mb : M AV} {σ : L2.St} {H : Hp} {Q : VK} (hA : fresh = true → OpA X.K (r2v r) (f2 f)) (hB : OpB X.K (r2v r) (f2 f))
    (h : tA T.tx X.K W (do let x ← ma; let y ← mb; v1 (opM [x, y] fresh (f2 f))) σ H Q) : tOp r (tA T.tx X.K W ma) (tA T.tx X.K W mb) σ H Q := by
  obtain ⟨Hs, e, A, R, g⟩ := h
  refine at_bind R g fun x a e1 Hs1 H1 A1 s1 R1 r1 P1 => ?_
  refine at_bind R1 P1 fun y b e2 Hs2 H2 A2 s2 R2 r2 P2 => ?_
  obtain ⟨x', y', e', q⟩ := op_use (r := r2v r) hA hB R2 (AVrs.two (r1.up s2.hs) r2) (Pst_v1 P2) fun d v H' Hs' g s' R' rp => g v H' Hs' A2 ((s1.trans s2).trans s') R' rp
  cases e'
  exact q
theorem use1 {r : V → Hp → VK → Prop} {f : D → Option D} {fresh : Bool} {ma : M AV} {σ : L2.St} {H : Hp} {Q : VK} (hA : fresh = true → OpA X.K (r1v r) (f1 f)) (hB : OpB X.K (r1v r) (f1 f))
    (h : tA T.tx X.K W (do let x ← ma; v1 (opM [x] fresh (f1 f))) σ H Q) : tUn r (tA T.tx X.K W ma) σ H Q := by
  obtain ⟨Hs, e, A, R, g⟩ := h
  refine at_bind R g fun x a e1 Hs1 H1 A1 s1 R1 r1 P1 => ?_
  obtain ⟨x', e', q⟩ := op_use (r := r1v r) hA hB R1 (AVrs.one r1) (Pst_v1 P1) fun d v H' Hs' g s' R' rp => g v H' Hs' A1 (s1.trans s') R' rp
  cases e'
  exact q
theorem pv_bin (C : Cz T P k N sc W X) {op : Operator} {a b : Expr} {ma mb : M AV} {pos : Pos} (ho : opOk op = true) (ha : PE X a (tA T.tx X.K W ma)) (hb : PE X b (tA T.tx X.K W mb)) :
    PE X (.BinOp a op b pos) (tA T.tx X.K W (do let x ← ma; let y ← mb; v1 (opM [x, y] (op == .Add) (f2 (binD op))))) := by
  obtain ⟨r, h1, h2, h3⟩ := op_bin (X := X) ho
  exact (pe_op h1 ha hb).mono fun σ H Q q => use2 h2 h3 q
theorem pv_neg (C : Cz T P k N sc W X) {a : Expr} {ma : M AV} {pos : Pos} (ha : PE X a (tA T.tx X.K W ma)) :
    PE X (.UnaryOp .USub a pos) (tA T.tx X.K W (do let x ← ma; v1 (opM [x] false (f1 negD)))) :=
  (pe_un un_neg ha).mono fun σ H Q q => use1 (fresh := false) (fun h => nomatch h) opB_neg q
theorem pv_idx (C : Cz T P k N sc W X) {a b : Expr} {ma mb : M AV} {pos : Pos} (ha : PE X a (tA T.tx X.K W ma)) (hb : PE X b (tA T.tx X.K W mb)) (hs : PlainIx b) :
    PE X (.Subscript a b pos) (tA T.tx X.K W (do let x ← ma; let y ← mb; v1 (opM [x, y] true (f2 idxD)))) :=
  (pe_ix (ix_seq.or (ix_dict (by have := C.hu; omega))) ha hb hs).mono fun σ H Q q => use2 (fun _ => opA_idx) opA_idx.b q

/-! ### tests -/
/-- an operation whose answer is a truth -/
theorem use2b {r : R2} {f : D → D → Option D} {ma mb : M AV} {σ : L2.St} {H : Hp} {Q : Bool → Hp → Prop} (hB : OpB X.K (r2v r) (f2 f))
    (h : tT T.tx X.K W (do let x ← ma; let y ← mb; let d ← opM [x, y] false (f2 f); boolM d) σ H Q) : tTest (tOp r (tA T.tx X.K W ma) (tA T.tx X.K W mb)) σ H Q := by
  obtain ⟨Hs, e, A, R, g⟩ := h
  refine at_bind R g fun x a e1 Hs1 H1 A1 s1 R1 r1 P1 => ?_
  refine at_bind R1 P1 fun y b e2 Hs2 H2 A2 s2 R2 r2 P2 => ?_
  obtain ⟨x', y', e', q⟩ := op_use (fresh := false) (r := r2v r) (Q := fun x H' => ∃ k, x = .bl k ∧ Q k H') (fun h => nomatch h) hB R2 (AVrs.two (r1.up s2.hs) r2) P2.bind fun d v H' Hs' g s' R' rp => by
    obtain ⟨c, rfl, g⟩ := boolM_inv g
    exact ⟨c, rp.bool_inv, g c H' Hs' A2 ((s1.trans s2).trans s') R' rfl⟩
  cases e'
  exact q
theorem pv_cmpT (C : Cz T P k N sc W X) {op : CmpOp} {a b : Expr} {ma mb : M AV} {pos : Pos} (ha : PE X a (tA T.tx X.K W ma)) (hb : PE X b (tA T.tx X.K W mb)) (hm : behindInMarks op b = false) :
    PT X (.Compare a [op] [b] pos) (tT T.tx X.K W (cmpM op ma mb)) := by
  obtain ⟨r, h1, h2⟩ := op_cmp C.hu op
  exact (pt_cmpR h1 ha hb hm).mono fun σ H Q q => use2b h2 q
theorem use2v {r : R2} {f : D → D → Option D} {ma mb : M AV} {σ : L2.St} {H : Hp} {Q : VK} (hB : OpB X.K (r2v r) (f2 f))
    (h : tA T.tx X.K W (boolV (do let x ← ma; let y ← mb; let d ← opM [x, y] false (f2 f); boolM d)) σ H Q) : tOp r (tA T.tx X.K W ma) (tA T.tx X.K W mb) σ H Q := by
  obtain ⟨Hs, e, A, R, g⟩ := h
  have g := g.bind
  refine at_bind R g fun x a e1 Hs1 H1 A1 s1 R1 r1 P1 => ?_
  refine at_bind R1 P1 fun y b e2 Hs2 H2 A2 s2 R2 r2 P2 => ?_
  obtain ⟨x', y', e', q⟩ := op_use (fresh := false) (r := r2v r) (Q := Q) (fun h => nomatch h) hB R2 (AVrs.two (r1.up s2.hs) r2) P2.bind fun d v H' Hs' g s' R' rp => by
    obtain ⟨c, rfl, g⟩ := boolM_inv g
    exact g v H' Hs' A2 ((s1.trans s2).trans s') R' rp
  cases e'
  exact q
theorem pv_cmp (C : Cz T P k N sc W X) {op : CmpOp} {a b : Expr} {ma mb : M AV} {pos : Pos} (ha : PE X a (tA T.tx X.K W ma)) (hb : PE X b (tA T.tx X.K W mb)) (hm : behindInMarks op b = false) :
    PE X (.Compare a [op] [b] pos) (tA T.tx X.K W (boolV (cmpM op ma mb))) := by
  obtain ⟨r, h1, h2⟩ := op_cmp C.hu op
  exact (pe_cmpR h1 ha hb hm).mono fun σ H Q q => use2v h2 q
theorem boolV_at {m : M Bool} {σ : L2.St} {H : Hp} {Q : VK} (h : tA T.tx X.K W (boolV m) σ H Q) : tT T.tx X.K W m σ H (fun b H' => Q (.bl b) H') := by
  obtain ⟨Hs, e, A, R, g⟩ := h
  refine at_bind R g fun b c e1 Hs1 H1 A1 s1 R1 r1 P1 => ?_
  cases r1
  exact P1 (.bl b) H1 Hs1 A1 s1 R1 (.bl b)
/-- an expression that tells a truth, as a test -/
theorem pv_tst {e : Expr} {m : M AV} (h : PE X e (tA T.tx X.K W m)) (he : ∀ whole, isTrue e X.env whole = (do let v ← whole; standAt e.pos; holding [v] (truthy v))) : PT X e (tT T.tx X.K W (tstM m)) :=
  (pt_val h he).mono fun σ H Q q => by
    obtain ⟨Hs, e, A, R, g⟩ := q
    refine at_bind R g fun v a e1 Hs1 H1 A1 s1 R1 r1 P1 => ?_
    obtain ⟨d, rfl, P1⟩ := valM_inv P1.bind
    obtain ⟨c, rfl, P1⟩ := boolM_inv P1
    exact ⟨c, Rp.bool_inv r1, P1 c H1 Hs1 A1 s1 R1 rfl⟩
theorem tstM_boolV (m : M Bool) : tstM (boolV m) = m := by
  funext e
  show ((boolV m) e).bind _ = m e
  unfold boolV
  show ((m e).bind _).bind _ = m e
  cases m e <;> rfl
theorem tstM_not (m : M Bool) : tstM (do let b ← m; M.ret (.val (.bool (!b)))) = (do let b ← m; M.ret (!b)) := by
  funext e
  show ((m e).bind _).bind _ = (m e).bind _
  cases m e <;> rfl
theorem pv_notT {a : Expr} {m : M Bool} {pos : Pos} (h : PT X a (tT T.tx X.K W m)) : PT X (.UnaryOp .Not a pos) (tT T.tx X.K W (do let b ← m; M.ret (!b))) :=
  (pt_not h).mono fun σ H Q q => by
    obtain ⟨Hs, e, A, R, g⟩ := q
    exact at_bind R g fun b c e1 Hs1 H1 A1 s1 R1 r1 P1 => by cases r1; exact P1 (!b) H1 Hs1 A1 s1 R1 rfl
theorem tst_at {m : M AV} {e : En} {A : Nat → List Addr} {Hs H : Hp} {g : Bool → En → Prop} {Tx : Tx} {K : PySem.W.Frag} (h : Pst Tx K W A Hs H (tstM m e) g) :
    Pst Tx K W A Hs H (m e) fun a e' => ∃ b, a = .val (.bool b) ∧ g b e' := by
  refine h.bind.imp fun a e1 h => ?_
  obtain ⟨d, rfl, h⟩ := valM_inv h.bind
  obtain ⟨c, rfl, h⟩ := boolM_inv h
  exact ⟨c, rfl, h⟩
theorem pv_not (C : Cz T P k N sc W X) {a : Expr} {m : M AV} {pos : Pos} (h : PE X a (tA T.tx X.K W m)) : PE X (.UnaryOp .Not a pos) (tA T.tx X.K W (do let b ← tstM m; M.ret (.val (.bool (!b))))) :=
  (pe_not h).mono fun σ H Q q => by
    obtain ⟨Hs, e, A, R, g⟩ := q
    refine ⟨Hs, e, A, R, (tst_at g.bind).imp fun a e1 ⟨b, ea, g⟩ v H1 Hs1 A1 s1 R1 r1 => ?_⟩
    subst ea
    exact ⟨b, Rp.bool_inv r1, g (.bl (!b)) H1 Hs1 A1 s1 R1 (.bl _)⟩
theorem pv_ife {c a b : Expr} {mc ma mb : M AV} {pos : Pos} (hc : PT X c (tT T.tx X.K W (tstM mc))) (ha : PE X a (tA T.tx X.K W ma)) (hb : PE X b (tA T.tx X.K W mb)) :
    PE X (.IfExp c a b pos) (tA T.tx X.K W (do let t ← tstM mc; if t then ma else mb)) :=
  (pe_ifExp hc ha hb).mono fun σ H Q q => by
    obtain ⟨Hs, e, A, R, g⟩ := q
    refine at_bind R g fun v t e1 Hs1 H1 A1 s1 R1 r1 P1 => ?_
    cases r1
    cases v with
    | true => exact iteT (tM_at R1 (P1.imp fun a e' g v H' Hs' A' s r q => g v H' Hs' A' (s1.trans s) r q))
    | false => exact iteF (tM_at R1 (P1.imp fun a e' g v H' Hs' A' s r q => g v H' Hs' A' (s1.trans s) r q))
/-! ### and, or -/
def stepB (op : BoolOp) (m : M Bool) (r : M Bool) : M Bool := do
  let b ← m
  if b == (op == .And) then r else M.ret b
theorem evB_one_and (m : M Bool) : stepB .And m (M.ret true) = m := by
  funext e
  show (m e).bind _ = m e
  cases h : m e with
  | ok b e' => cases b <;> rfl
  | ex x e' => rfl
  | bad => rfl
theorem evB_one_or (m : M Bool) : stepB .Or m (M.ret false) = m := by
  funext e
  show (m e).bind _ = m e
  cases h : m e with
  | ok b e' => cases b <;> rfl
  | ex x e' => rfl
  | bad => rfl
theorem pw_step {op : BoolOp} {a b : Expr} {rest : List Expr} {m r : M Bool} {pos : Pos} (ha : PT X a (tT T.tx X.K W m)) (hb : PW X (.BoolOp op (b :: rest) pos) (tT T.tx X.K W r)) :
    PW X (.BoolOp op (a :: b :: rest) pos) (tT T.tx X.K W (stepB op m r)) := by
  cases op with
  | And =>
    refine ⟨fun wh pins s σ H Q I q => (pw_and ha hb).run wh pins s σ H Q I ?_⟩
    obtain ⟨Hs, e, A, R, g⟩ := q
    refine at_bind R g fun v t e1 Hs1 H1 A1 s1 R1 r1 P1 => ?_
    cases r1
    cases v with
    | true => exact iteT (tM_at R1 (Pst.imp (show Pst _ _ _ _ _ _ (r e1) _ from P1) fun a e' g v H' Hs' A' s r q => g v H' Hs' A' (s1.trans s) r q))
    | false => exact iteF (P1 false H1 Hs1 A1 s1 R1 rfl)
  | Or =>
    refine ⟨fun wh pins s σ H Q I q => (pw_or ha hb).run wh pins s σ H Q I ?_⟩
    obtain ⟨Hs, e, A, R, g⟩ := q
    refine at_bind R g fun v t e1 Hs1 H1 A1 s1 R1 r1 P1 => ?_
    cases r1
    cases v with
    | true => exact iteT (P1 true H1 Hs1 A1 s1 R1 rfl)
    | false => exact iteF (tM_at R1 (Pst.imp (show Pst _ _ _ _ _ _ (r e1) _ from P1) fun a e' g v H' Hs' A' s r q => g v H' Hs' A' (s1.trans s) r q))
theorem Pst_boolV {Tx : Tx} {K : PySem.W.Frag} {A : Nat → List Addr} {Hs H : Hp} {m : M Bool} {e : En} {g : AV → En → Prop} (h : Pst Tx K W A Hs H (m e) fun b e' => g (.val (.bool b)) e') : Pst Tx K W A Hs H (boolV m e) g := by
  show Pst Tx K W A Hs H ((m e).bind _) g
  cases q : m e with
  | ok c e' => rw [q] at h; exact h
  | ex x e' => rw [q] at h; exact h
  | bad => rw [q] at h; exact h
theorem pe_step {op : BoolOp} {a b : Expr} {rest : List Expr} {ma : M AV} {r : M Bool} {pos : Pos} (ha : PE X a (tA T.tx X.K W ma)) (hb : PE X (.BoolOp op (b :: rest) pos) (tA T.tx X.K W (boolV r))) :
    PE X (.BoolOp op (a :: b :: rest) pos) (tA T.tx X.K W (boolV (stepB op (tstM ma) r))) := by
  cases op with
  | And =>
    refine (pe_and ha hb).mono fun σ H Q q => ?_
    obtain ⟨Hs, e, A, R, g⟩ := q
    refine ⟨Hs, e, A, R, (tst_at g.bind.bind).imp fun a e1 ⟨b, ea, g⟩ v H1 Hs1 A1 s1 R1 r1 => ?_⟩
    subst ea
    refine ⟨b, Rp.bool_inv r1, ?_⟩
    cases b with
    | true =>
      exact iteT (tM_at R1 (((Pst_boolV (m := r) (e := e1) (g := fun a e' => ∀ v H' Hs' A', Stp A Hs H A' Hs' H' → Rel X.K σ Hs' H' e' A' → rA X.K σ Hs' H' v a → Q v H') g).later s1).imp fun a e' g v H' Hs' A' s r q => g v H' Hs' A' (s1.trans s) r q))
    | false => exact iteF (g (.bl false) H1 Hs1 A1 s1 R1 (.bl _))
  | Or =>
    refine (pe_or ha hb).mono fun σ H Q q => ?_
    obtain ⟨Hs, e, A, R, g⟩ := q
    refine ⟨Hs, e, A, R, (tst_at g.bind.bind).imp fun a e1 ⟨b, ea, g⟩ v H1 Hs1 A1 s1 R1 r1 => ?_⟩
    subst ea
    refine ⟨b, Rp.bool_inv r1, ?_⟩
    cases b with
    | true => exact iteT (g (.bl true) H1 Hs1 A1 s1 R1 (.bl _))
    | false =>
      exact iteF (tM_at R1 (((Pst_boolV (m := r) (e := e1) (g := fun a e' => ∀ v H' Hs' A', Stp A Hs H A' Hs' H' → Rel X.K σ Hs' H' e' A' → rA X.K σ Hs' H' v a → Q v H') g).later s1).imp fun a e' g v H' Hs' A' s r q => g v H' Hs' A' (s1.trans s) r q))
/-- a chain of two comparisons -/
theorem ofF {op : CmpOp} {p q : D} {r : Bool} (h : cmpOpD op p q = some r) : f2 (cmpF op) [p, q] = some (.bool r) := by simp [f2, cmpF, h]
theorem use_cmp {op : CmpOp} {r : R2} (hB : OpB X.K (r2v r) (f2 (cmpF op))) {x y : V} {p q : D} {b : Bool} {σ : L2.St} {Hs H : Hp} {e : En} {A : Nat → List Addr} {Q : VK} (R : Rel X.K σ Hs H e A) (h : cmpOpD op p q = some b) (rx : Rp X.K Hs x p) (ry : Rp X.K Hs y q)
    (hQ : ∀ H' Hs', Stp A Hs H A Hs' H' → Rel X.K σ Hs' H' e A → Q (.bl b) H') : r x y H Q := by
  obtain ⟨x', y', e', z⟩ := hB Hs H [x, y] [p, q] (.bool b) Q R.sub (.cons rx (.cons ry .nil)) (ofF h) fun v Hs' H' x rp => by
    rw [rp.bool_inv]
    exact hQ H' Hs' x.stp (R.ext x)
  cases e'
  exact z
theorem chain_at {op op' : CmpOp} {r r' : R2} (h2 : OpB X.K (r2v r) (f2 (cmpF op))) (h2' : OpB X.K (r2v r') (f2 (cmpF op'))) {ma mb mc : M AV} {σ : L2.St} {H : Hp} {Q : VK}
    (h : tT T.tx X.K W (cmp2M op op' ma mb mc) σ H fun b H' => Q (.bl b) H') : tChain r r' (tA T.tx X.K W ma) (tA T.tx X.K W mb) (tA T.tx X.K W mc) σ H Q := by
  obtain ⟨Hs, e, A, R, g⟩ := h
  refine at_bind R g fun x a e1 Hs1 H1 A1 s1 R1 r1 P1 => ?_
  obtain ⟨p, rfl, P1⟩ := valM_inv P1.bind
  refine at_bind R1 P1 fun y b e2 Hs2 H2 A2 s2 R2 r2 P2 => ?_
  obtain ⟨q, rfl, P2⟩ := valM_inv P2.bind
  obtain ⟨c, hc, P2⟩ := ofO_inv P2.bind
  refine use_cmp h2 R2 hc (Rp.up s2.hs r1) r2 fun H3 Hs3 s3 R3 => ⟨c, rfl, ?_⟩
  cases c with
  | true =>
    refine iteT (at_bind R3 (P2.later s3) fun z d e4 Hs4 H4 A4 s4 R4 r4 P4 => ?_)
    obtain ⟨w, rfl, P4⟩ := valM_inv P4.bind
    obtain ⟨c', hc', P4⟩ := ofO_inv P4
    exact use_cmp h2' R4 hc' (Rp.up (s3.hs.trans s4.hs) r2) r4 fun H5 Hs5 s5 R5 => P4 c' H5 Hs5 A4 (((s1.trans s2).trans s3).trans (s4.trans s5)) R5 rfl
  | false => exact iteF (P2 false H3 Hs3 A2 ((s1.trans s2).trans s3) R3 rfl)
theorem pv_cmp2 (C : Cz T P k N sc W X) {op op' : CmpOp} {a b c : Expr} {ma mb mc : M AV} {pos : Pos} (ha : PE X a (tA T.tx X.K W ma)) (hb : PE X b (tA T.tx X.K W mb)) (hc : PE X c (tA T.tx X.K W mc)) (hm : lastMarks [op, op'] [b, c] = false) :
    PE X (.Compare a [op, op'] [b, c] pos) (tA T.tx X.K W (boolV (cmp2M op op' ma mb mc))) := by
  obtain ⟨r, h1, h2⟩ := op_cmp C.hu op
  obtain ⟨r', h1', h2'⟩ := op_cmp C.hu op'
  exact (pe_chain h1 h1' ha hb hc hm).mono fun σ H Q q => chain_at h2 h2' (boolV_at q)
theorem pv_cmp2T (C : Cz T P k N sc W X) {op op' : CmpOp} {a b c : Expr} {ma mb mc : M AV} {pos : Pos} (ha : PE X a (tA T.tx X.K W ma)) (hb : PE X b (tA T.tx X.K W mb)) (hc : PE X c (tA T.tx X.K W mc)) (hm : lastMarks [op, op'] [b, c] = false) :
    PT X (.Compare a [op, op'] [b, c] pos) (tT T.tx X.K W (cmp2M op op' ma mb mc)) := by
  obtain ⟨r, h1, h2⟩ := op_cmp C.hu op
  obtain ⟨r', h1', h2'⟩ := op_cmp C.hu op'
  exact (pt_chain h1 h1' ha hb hc hm).mono fun σ H Q q => chain_at h2 h2' (tM_imp q fun b H q => ⟨b, rfl, q⟩)

/-! ### displays, slices, built-ins -/
theorem pv_nil : PA X [] (tAs T.tx X.K W (M.ret [])) := pa_nil.mono fun σ H Q q => by
  obtain ⟨Hs, e, A, R, g⟩ := q
  exact g [] H Hs A .refl R .nil
theorem pv_cons {e : Expr} {es : List Expr} {m : M AV} {ms : M (List AV)} (h : PE X e (tA T.tx X.K W m)) (hr : PA X es (tAs T.tx X.K W ms)) (hs : starEach (e :: es) X.env = (false, eval e X.env) :: starEach es X.env) :
    PA X (e :: es) (tAs T.tx X.K W (do let x ← m; let xs ← ms; M.ret (x :: xs))) := (pa_cons h hr hs).mono fun σ H Q q => by
  obtain ⟨Hs, e, A, R, g⟩ := q
  refine at_bind R g fun x a e1 Hs1 H1 A1 s1 R1 r1 P1 => ?_
  refine at_bind R1 P1 fun xs as e2 Hs2 H2 A2 s2 R2 r2 P2 => ?_
  exact P2 (x :: xs) H2 Hs2 A2 (s1.trans s2) R2 (.cons (r1.up s2.hs) r2)
theorem valsM_inv {K : PySem.W.Frag} {A : Nat → List Addr} {Hs H : Hp} {Tx : Tx} : ∀ {as : List AV} {e : En} {g : List D → En → Prop} {σ : L2.St} {Hs0 : Hp} {vs : List V}, AVrs K σ Hs0 vs as → Pst Tx K W A Hs H (valsM as e) g → ∃ ds, RpAll K Hs0 vs ds ∧ g ds e
  | [], e, g, σ, Hs0, _, .nil, h => ⟨[], .nil, h⟩
  | a :: as, e, g, σ, Hs0, _, .cons (v := v) (vs := vs) r rs, h => by
    simp only [valsM] at h
    obtain ⟨d, rfl, h⟩ := valM_inv (Pst.bind h)
    obtain ⟨ds, r', h⟩ := valsM_inv rs (Pst.bind h)
    exact ⟨d :: ds, .cons r r', h⟩
theorem disp_at {ms : M (List AV)} {kd : List D → D} {mk : List V → HO} {σ : L2.St} {H : Hp} {Q : VK}
    (hk : ∀ (K : PySem.W.Frag) (Hs : Hp) p vs ds, Hs p = some (mk vs) → RpAll K Hs vs ds → Rp K Hs (.ref p) (kd ds))
    (q : tA T.tx X.K W (dispM ms kd) σ H Q) : tAs T.tx X.K W ms σ H fun xs H1 => xs.length ≤ sizeLine ∧ ∀ p, H1 p = none → Q (.ref p) (upd H1 p (mk xs)) := by
  obtain ⟨Hs, e, A, R, g⟩ := q
  refine at_bind R g fun xs as e1 Hs1 H1 A1 s1 R1 r1 P1 => ?_
  obtain ⟨ds, rp, P1⟩ := valsM_inv r1 P1.bind
  obtain ⟨_, c, P1⟩ := ofO_inv P1.bind
  split at c
  · rename_i hl
    refine ⟨by rw [rp.length]; exact sline_eq ▸ hl, fun p n => ?_⟩
    have x := Ext.laid (o := mk xs) R1.sub n
    exact P1 (.ref p) _ _ A1 (s1.trans x.stp) (R1.ext x) (hk _ _ _ _ _ upd_same (rp.up x.hs))
  · cases c
theorem pv_tup {es : List Expr} {ms : M (List AV)} {x1 : Nat} {pos : Pos} (h : PA X es (tAs T.tx X.K W ms)) : PE X (.Tuple es x1 pos) (tA T.tx X.K W (dispM ms .tuple)) :=
  (pe_tup h).mono fun σ H Q q => disp_at (mk := .tup) (fun K Hs p vs ds h r => .tup (.of h) r) q
theorem pv_lst {es : List Expr} {ms : M (List AV)} {pos : Pos} (h : PA X es (tAs T.tx X.K W ms)) : PE X (.List es pos) (tA T.tx X.K W (dispM ms .list)) :=
  (pe_lst h).mono fun σ H Q q => disp_at (mk := .lst) (fun K Hs p vs ds h r => .lst (.of h) r) q
theorem intM_inv {d : D} {e : En} {Tx : Tx} {K : PySem.W.Frag} {A : Nat → List Addr} {Hs H : Hp} {g : Int → En → Prop} (h : Pst Tx K W A Hs H (intM d e) g) : ∃ b, d = .int b ∧ g b e := by
  cases d <;> first | exact ⟨_, rfl, h⟩ | exact h.elim
/-- a part of a slice -/
abbrev tO (T : Tx) (K : PySem.W.Frag) (W : WX) (m : M (Option Int)) : L2.St → Hp → (Option Int → Hp → Prop) → Prop := tM T K W (fun _ _ _ a b => a = b) m
theorem PO_mono {e : Option Expr} {t u : TO} (h : PO X e t) (f : ∀ σ H Q, u σ H Q → t σ H Q) : PO X e u := ⟨fun pins s σ H Q I q => h.run pins s σ H Q I (f σ H Q q)⟩
theorem pv_noPart : PO X none (tO T.tx X.K W (M.ret none)) := PO_mono po_none fun σ H Q q => by
  obtain ⟨Hs, e, A, R, g⟩ := q
  exact g none H Hs A .refl R rfl
theorem pv_part {e : Expr} {m : M AV} (h : PE X e (tA T.tx X.K W m)) : PO X (some e) (tO T.tx X.K W (do let x ← m; let d ← valM x; let i ← intM d; M.ret (some i))) := PO_mono (po_some h) fun σ H Q q => by
  obtain ⟨Hs, e, A, R, g⟩ := q
  refine at_bind R g fun v a e1 Hs1 H1 A1 s1 R1 r1 P1 => ?_
  obtain ⟨d, rfl, P1⟩ := valM_inv (Pst.bind P1)
  obtain ⟨j, rfl, P1⟩ := intM_inv (Pst.bind P1)
  exact ⟨j, Rp.int_inv r1, P1 (some j) H1 Hs1 A1 s1 R1 rfl⟩
theorem pv_slc {e : Expr} {lo hi : Option Expr} {m : M AV} {ml mh : M (Option Int)} {pos p2 : Pos} (he : PE X e (tA T.tx X.K W m)) (hl : PO X lo (tO T.tx X.K W ml)) (hh : PO X hi (tO T.tx X.K W mh)) :
    PE X (.Subscript e (.Slice lo hi none p2) pos) (tA T.tx X.K W (do let x ← m; let l ← ml; let h ← mh; v1 (opM [x] true (f1 fun p => slcD p l h)))) :=
  (pe_slice sl_all he hl hh).mono fun σ H Q q => by
    obtain ⟨Hs, e, A, R, g⟩ := q
    refine at_bind R g fun x a e1 Hs1 H1 A1 s1 R1 r1 P1 => ?_
    refine at_bind R1 P1 fun l l' e2 Hs2 H2 A2 s2 R2 r2 P2 => ?_
    refine at_bind R2 P2 fun h h' e3 Hs3 H3 A3 s3 R3 r3 P3 => ?_
    cases r2; cases r3
    obtain ⟨x', e', q⟩ := op_use (r := r1v fun x H Q => rSl X.K x l h H Q) (fun _ => opA_slc l h) (opA_slc l h).b R3 (AVrs.one ((r1.up s2.hs).up s3.hs)) (Pst_v1 P3)
      fun d v H' Hs' g s' R' rp => g v H' Hs' A3 (((s1.trans s2).trans s3).trans s') R' rp
    cases e'
    exact q
/-- a built-in function's call -/
theorem pv_bi (C : Cz T P k N sc W X) {f : Bf} {x : Str} {c : Bool} {n : String} {e : Expr} {es : List Expr} {ms : M (List AV)} {p pos : Pos} (hf : biN f = some (x, c, n)) (hb : x ∈ T.nb) (hg : isGl sc x = true)
    (ha : PA X (e :: es) (tAs T.tx X.K W ms)) (he : starEach (e :: es) X.env = (false, eval e X.env) :: starEach es X.env) (hpl : (backTo pos (starEach es X.env)).any (·.1) = false) :
    PE X (.Call (.Name x p) (e :: es) [] pos) (tA T.tx X.K W (do let xs ← ms; v1 (opM xs (rootBi f) (biD f)))) := by
  obtain ⟨hv, hn, hd, r, h1, h2, h3⟩ := bi_call (X := X) C.calm C.fx.sys C.hu C.gd hf
  have key : ∀ σ H Q, tA T.tx X.K W (do let xs ← ms; v1 (opM xs (rootBi f) (biD f))) σ H Q → tCB r (tAs T.tx X.K W ms) σ H Q := fun σ H Q q => by
    obtain ⟨Hs, e, A, R, g⟩ := q
    refine at_bind R g fun xs as e1 Hs1 H1 A1 s1 R1 r1 P1 => ?_
    exact op_use h2 h3 R1 r1 (Pst_v1 P1) fun d v H' Hs' g s' R' rp => g v H' Hs' A1 (s1.trans s') R' rp
  cases c with
  | false => exact (pe_callB h1 (isGl_gl C.hsc hg) (C.fx.nb x hb) hv ha hn hd he hpl).mono key
  | true => exact (pe_callTy h1 (isGl_gl C.hsc hg) (C.fx.nb x hb) hv ha hn hd he hpl).mono key
end
end Pv

/-! PvSet: sorted(set(numbers)), by the library's own loop over a set of numbers. -/
namespace Pv
open PySem PySem.Spec PyProof.Rows L2
variable [TabC]

abbrev eSet (w : World) : Obj := { cls := .type "set", dict := none, data := .set #[] 0 (.fresh 0 0 (!w.params.followText "set-order")) }
abbrev liO (l : Addr) : Obj := { cls := .type "list_iterator", data := .fields #[.ref l, .int 0 0] }
section
variable {P : Program} {w : World} {A : Around} {E : Value → Shared → Prop} {s : Shared}
set_option maxHeartbeats 3200000 in
theorem call_set_ints {l : Addr} {items : Array Value} (ns : List Int) {Q : Value → Shared → Prop} (hh : A.handled = none) (hl : s.heap.IsList l items) (hit : IntsAre items.toList ns) (hb : ns.length + 1 < scanBound)
    (h : ∀ (h' : Heap) (tk c : Nat), SetR w h' s.heap.objs.size (fun j => decide (j ∈ ns)) c → c ≤ ns.length → (∀ b o, s.heap.get? b = some o → h'.get? b = some o) → Q (.ref s.heap.objs.size) { s with heap := h', toks := tk }) :
    wpAny (model P w) A (call (.type "set") [.ref l]) Q E s := by
  have many : items.size = ns.length := by have q := IntsAre.length hit; rwa [Array.length_toList] at q
  obtain ⟨c, tl, hmro⟩ := F.called_set.mro
  have hmade := F.called_set.made
  have hsub := F.called_set.sub
  refine wpAny_call (codeAny_of_tree ?_)
  show wpAny _ _ (callAny (.type "set") _) _ _ _
  refine wpAny_pure ⟨Code.quiet_builtin _ (by decide +kernel), codeAny_builtin F.entry_type_call ?_⟩
  rw [Around.under_plain (weight_type_call_type "set" [.ref l] []) rfl]
  have h1 := F.called_set.notType
  have h2 := F.called_set.canCreate
  have hct := F.typeCall_set_1 (.ref l)
  repeat (any_goals (first | assumption | wp_step))
  refine codeAny_mono (code_set_led1 (.ref l) (E := E) (Q₁ := fun u s1 => u = .ref s.heap.objs.size ∧ s1 = { s with heap := s.heap.push (eSet w) }) ⟨rfl, rfl⟩) fun r s1 hr => ?_
  match r, hr with
  | .error e, hr => exact hr
  | .ok (.ret u), hr =>
    obtain ⟨rfl, rfl⟩ := hr
    have hS : (s.heap.push (eSet w)).get? s.heap.objs.size = some (eSet w) := Heap.get?_push_size _ rfl
    have hT : Shared.TypeIs { s with heap := s.heap.push (eSet w) } (.ref s.heap.objs.size) "set" := ⟨_, hS, rfl⟩
    have hli := F.called_set.init.lookup
    have hbi := F.called_set.init.bind (.ref s.heap.objs.size)
    repeat (any_goals (first | assumption | wp_step))
    refine codeAny_mono (codeAny_call_builtin (R := wants (fun r s2 => r = .none ∧ ∃ h' tk c, s2 = { s with heap := h', toks := tk } ∧ SetR w h' s.heap.objs.size (fun j => decide (j ∈ ns)) c ∧ c ≤ ns.length ∧ ∀ b o, s.heap.get? b = some o → h'.get? b = some o) E)
      F.called_set.init.plain F.entry_set_init (check_set_init_1 hT ?_)) fun r2 s2 hr2 => ?_
    · obtain ⟨⟨oc, od, dt, osl⟩, hol, hcl, nl, hdl⟩ := hl
      simp only at hcl hdl
      subst hcl; subst hdl
      have hol' : (s.heap.push (eSet w)).get? l = some { cls := .type "list", dict := od, data := .seq items nl, slots := osl } := Heap.get?_push_of_some _ hol
      have hsls := F.sub_list_set
      have hslf := F.sub_list_frozenset
      have hne : (Value.type "list" == Value.type "dict") = false := by decide
      have hl1 : (s.heap.push (eSet w)).IsList l items := ⟨_, hol', rfl, nl, rfl⟩
      unfold Builtin.«set.__init__» noKeywords Builtin.Frozenset.updateFrom
      generalize hPI : pyIter = PI
      wp_walk
      subst hPI
      refine wpAny_pyIter_list hl1 (wpAny_bind (wpAny_runValue ?_))
      have lS : l < s.heap.objs.size := Heap.lt_size hol
      have h3 : A.in1.in1.in1.handled = none := by simp [hh]
      have nI : l ≠ (s.heap.push (eSet w)).objs.size := by rw [Heap.size_push]; exact Nat.ne_of_lt (Nat.lt_succ_of_lt lS)
      have nS : s.heap.objs.size ∉ [(s.heap.push (eSet w)).objs.size, l] := by
        rw [Heap.size_push]
        simp only [List.mem_cons, List.not_mem_nil, or_false, not_or]
        exact ⟨Nat.ne_of_lt (Nat.lt_succ_self _), Nat.ne_of_gt lS⟩
      have at' : ∀ (i : Nat) (v : Value), items[i]? = some v → ∃ k t, ns[i]? = some k ∧ v = .int k t := fun i v hv => by
        have hi : i < ns.length := by rw [← many]; exact (Array.getElem?_eq_some_iff.mp hv).1
        obtain ⟨t, e⟩ := PyProof.Rows.IntsAre.int_at hit i v (by rw [Array.getElem?_toList]; exact hv)
        exact ⟨ns[i], t, List.getElem?_eq_getElem hi, by rw [e, List.getD_eq_getElem?_getD, List.getElem?_eq_getElem hi]; rfl⟩
      refine set_update_ints ((Walks.list h3 _ l nI items).toS) s.heap.objs.size nS ns many hb at' (items.size - 0) 0 _ (by omega) (Nat.zero_le _) ⟨⟨_, Heap.get?_push_size _ rfl, rfl, rfl⟩, (hl1.push _)⟩ ⟨0, Nat.le_refl 0, setR_new_at (Heap.get?_push_of_some _ hS)⟩ fun s' c' hm hc' hS' => ?_
      obtain ⟨h', g2, d', tk', os'⟩ := s'
      have eg : g2 = s.gens := hm.gens
      have ed : d' = s.drawn := hm.drawn
      have eo : os' = s.os := hm.os
      subst eg; subst ed; subst eo
      show wpAny _ _ _ _ _ _
      refine wpAny_pure ?_
      show wpAny _ _ (ret Value.none) _ _ _
      rw [many] at hc'
      refine wpAny_pure ⟨rfl, h', tk', c', rfl, hS', hc', fun b o e => ?_⟩
      have b0 : b < s.heap.objs.size := Heap.lt_size e
      refine hm.heap b o ?_ (Heap.get?_push_of_some _ (Heap.get?_push_of_some _ e))
      simp only [List.mem_cons, List.not_mem_nil, or_false, not_or]
      exact ⟨Nat.ne_of_lt b0, by rw [Heap.size_push]; exact Nat.ne_of_lt (Nat.lt_succ_of_lt b0)⟩
    · match r2, hr2 with
      | .error e, hr2 => exact hr2
      | .ok (.ret r), hr2 =>
        obtain ⟨rfl, h', tk, c', rfl, hS', hc', hk'⟩ := hr2
        repeat (any_goals (first | assumption | wp_step))
        exact h _ _ _ hS' hc' hk'
      | .ok .next, hr2 => exact hr2.elim
      | .ok .brk, hr2 => exact hr2.elim
      | .ok .cont, hr2 => exact hr2.elim
  | .ok .next, hr => exact hr.elim
  | .ok .brk, hr => exact hr.elim
  | .ok .cont, hr => exact hr.elim
end
section
open SrtO Srt
variable {P : Program} {w : World} {A : Around} {E : Value → Shared → Prop} {s : Shared} {a : Addr}
/-- sorted(a set of numbers), any number of them -/
theorem sorted_setN {S : Int → Bool} {n : Nat} {Q : Value → Shared → Prop} (R : SetR w s.heap a S n) (hh : A.handled = none) (hn4 : n < 4000)
    (hQ : ∀ s' p (out : Array Value) (c : Nat) (ns : List Int), (∀ b o, s.heap.get? b = some o → s'.heap.get? b = some o) → s'.gens = s.gens → s'.os = s.os → s.heap.objs.size ≤ p →
      s'.heap.get? p = some (seqObj "list" out c) → IntsAre out.toList ns → ns.Pairwise (· < ·) → (∀ k, k ∈ ns ↔ S k = true) → ns.length = n → Q (.ref p) s') :
    wpAny (model P w) A (call (.builtin "sorted") [.ref a]) Q E s := by
  obtain ⟨o, es, ep, t, ho, hex, hd, g, nd, hm, hb, hf, hn, hr, hl⟩ := R
  refine Calls.call_function_entry kind_sorted plain_sorted entry_sorted (args_sorted1 _) ?_
  unfold Builtin.«sorted»
  refine wpAny_bind (m := checkCount "sorted" 1 1 _) (wpAny_pure ?_)
  refine wpAny_bind (collect_set (A := A.in1) hh ⟨o, ho, hex.1, hd⟩ hf hb hr hl fun s1 vs k1 hz g1 o1 pm => ?_)
  have hvl : vs.length = n := by rw [pm.length_eq, List.length_map, Array.length_toList]; exact hn
  have hI : IntsAre vs (vs.map Builtin.Re.reRawOf) := ints_of vs fun v hv => by
    obtain ⟨e, he, q⟩ := List.mem_map.mp (pm.mem_iff.mp hv)
    obtain ⟨k, tk, h1, _⟩ := g e he
    exact ⟨k, tk, by rw [← q]; exact h1⟩
  have pk : (vs.map Builtin.Re.reRawOf).Perm (es.toList.map keyOf) := by
    have q := pm.map Builtin.Re.reRawOf
    rw [List.map_map] at q
    exact q
  have hsz : vs.length ≤ sizeLine := by rw [hvl, sizeLine_eq]; omega
  refine wpAny_bind (wpAny_newList ?_ hsz)
  have hoL : (s1.heap.push (seqObj "list" vs.toArray 0)).get? s1.heap.objs.size = some (seqObj "list" vs.toArray 0) := Heap.get?_push_size _ rfl
  refine wpAny_bind (wpAny_holding (wpAny_call_entry slot_list_sort ⟨_, hoL, rfl⟩ entry_list_sort (list_sort_ord swo_int hoL hsz (fun h2 => ints_sortable hI h2) fun out hs hb => ⟨_, rfl, ?_⟩) (args_list_sort _)))
  obtain ⟨a1, a2, a3⟩ := ints_out hI hs hb
  obtain ⟨c, hc⟩ := sortedHeap_at (vs := vs) (out := out.toArray) hoL
  have pn : (out.map iv).Perm (es.toList.map keyOf) := a2.trans pk
  refine wpAny_pure ⟨_, rfl, hQ _ s1.heap.objs.size out.toArray c (out.map iv) (fun b u e => ?_) g1 o1 hz hc a1 (lt_of_le_nodup _ a3 (pn.nodup_iff.mpr nd)) (fun k => by rw [pn.mem_iff, ← hm k]) ?_⟩
  · have q := k1 b u e
    have hlt := Heap.lt_size q
    show (sortedHeap (s1.heap.push (seqObj "list" vs.toArray 0)) s1.heap.objs.size vs out.toArray).get? b = some u
    rw [sortedHeap_old (Nat.ne_of_lt hlt) (by rw [size_push']; exact Nat.lt_succ_of_lt hlt)]
    exact Heap.get?_push_of_some _ q
  · rw [pn.length_eq, List.length_map, Array.length_toList]; exact hn
variable {X : Cx}
def rSortedSetN (w : World) : List V → Hp → VK → Prop := fun vs H Q => ∃ (a : Addr) (S : Int → Bool) (n : Nat), vs = [V.ref a] ∧ H a = some (SetO w a S n) ∧ n < 4000 ∧
  ∀ (ns : List Int) (p : Addr), ns.Pairwise (· < ·) → (∀ k : Int, k ∈ ns ↔ S k = true) → ns.length = n → H p = none → Q (.ref p) (upd H p (.lst (ns.map V.int)))
theorem cr_sortedSetN (hc : X.calm = true) : CallR X (.builtin "sorted") (rSortedSetN X.w) := by
  intro pins s σ H vs us Q I r h
  obtain ⟨a, S, n, rfl, ha, h64, q⟩ := h
  have R := setO_get I ha
  rw [Vals.ref1 r]
  refine sorted_setN R (I.ok.hd hc) h64 fun s' p out c ns k g o hp hg hi hs hm hl => ?_
  have hlen : (ns.map V.int).length ≤ sizeLine := by rw [List.length_map, hl, sizeLine_eq]; omega
  have hn : H p = none := I.hok.fresh hp
  have J : Inv X pins σ (upd H p (.lst (ns.map V.int))) { s with heap := s'.heap, gens := s'.gens, drawn := s'.drawn, toks := s'.toks } :=
    I.call (ch := []) (Un.laid k hp hn) (I.hok.laid k hp ⟨hlen, out.toList, c, vals_of_ints hi, hg⟩) (by rw [g]; exact I.bare) (fun _ z => nomatch z)
  have e : s' = { s with heap := s'.heap, gens := s'.gens, drawn := s'.drawn, toks := s'.toks } := by
    cases s'
    cases s
    cases o
    rfl
  rw [e]
  exact ⟨.ref p, _, J, rfl, q ns p hs hm hl hn⟩
end
section
variable {X : Cx}
/-- set(xs), xs a list of numbers -/
def rSetOfI (K : PySem.W.Frag) (w : World) : List V → Hp → VK → Prop := fun xs H Q => ∃ (l : Addr) (ns : List Int), xs = [V.ref l] ∧ SqL K H l (ns.map V.int) ∧ ns.length < 4000 ∧ ∀ a c, H a = none → c ≤ ns.length → Q (.ref a) (upd H a (SetO w a (fun j => decide (j ∈ ns)) c))
theorem cr_setOfI (hc : X.calm = true) : CallR X (.type "set") (rSetOfI X.K X.w) := by
  intro pins s σ H xs us Q I r h
  obtain ⟨l, ns, rfl, hl, hf, q⟩ := h
  rw [Vals.ref1 r]
  obtain ⟨its, rv, pl, hz⟩ := I.list hl
  refine call_set_ints ns (I.ok.hd hc) pl.isList (by simpa using rv.ints) (by unfold scanBound; omega) fun h' tk c R hcn k => ?_
  exact ⟨.ref s.heap.objs.size, upd H s.heap.objs.size (SetO X.w s.heap.objs.size (fun j => decide (j ∈ ns)) c), I.laid (t' := tk) k (Nat.le_refl _) (setO_new R), rfl, q _ c (I.hok.fresh (Nat.le_refl _)) hcn⟩
/-- sorted(set(xs)) -/
def rSS (K : PySem.W.Frag) (w : World) : List V → Hp → VK → Prop := fun xs H Q => ∃ (l : Addr) (ns : List Int), xs = [V.ref l] ∧ SqL K H l (ns.map V.int) ∧ ns.length < 4000 ∧
  ∀ a c p (ms : List Int), H a = none → ms.Pairwise (· < ·) → (∀ k, k ∈ ms ↔ k ∈ ns) → upd H a (SetO w a (fun j => decide (j ∈ ns)) c) p = none → Q (.ref p) (upd (upd H a (SetO w a (fun j => decide (j ∈ ns)) c)) p (.lst (ms.map V.int)))
end
section
variable {K : PySem.W.Frag}
theorem opA_sortedSet {w : World} : OpA K (rSS K w) (biD .sortedSet) := by
  intro Hs H vs ds d Q s R e q
  match ds, e, R with
  | [.list xs], e, R =>
    have e : ((toInts xs).bind fun is => if is.length < 4000 then some (.list ((sortI is).map .int)) else none) = some d := e
    obtain ⟨is, hi, e⟩ := Option.bind_eq_some_iff.mp e
    split at e
    · rename_i c
      cases e
      obtain ⟨x, rfl, ra⟩ := R.one
      obtain ⟨p, vs, rfl, h, r⟩ := ra.list s
      have ev := toInts_rp hi r
      subst ev
      refine ⟨p, is, rfl, h, c, fun a c2 p2 ms hn hs hm hp => ?_⟩
      rw [sorted_one hs (sortI_sorted is) fun k => by rw [hm, sortI_mem]]
      have x1 := Ext.laidO (o := SetO w a (fun j => decide (j ∈ is)) c2) s hn
      have x2 := Ext.laid (o := .lst ((sortI is).map V.int)) x1.sub hp
      refine q _ _ _ (x1.trans x2) (.lst (.of upd_same) ?_)
      exact rp_ints' _ (sortI is)
    · cases e
where
  rp_ints' : ∀ (H : Hp) (ns : List Int), RpAll K H (ns.map V.int) (ns.map PyData.int)
    | _, [] => .nil
    | H, n :: ns => .cons (.int n) (rp_ints' H ns)
end
section
variable {T : Txt} {P : Pr} {k : Nat} {N : List Str} {sc : Scope} {W : WX} {X : Cx}
theorem pv_sortedSet (C : Cz T P k N sc W X) {e : Expr} {ms : M (List AV)} {p p2 q pos : Pos} (hb : ("sorted" : Str) ∈ T.nb) (hg : isGl sc "sorted" = true) (hb2 : ("set" : Str) ∈ T.nb) (hg2 : isGl sc "set" = true)
    (ha : PA X [e] (tAs T.tx X.K W ms)) (he : starEach [e] X.env = (false, eval e X.env) :: starEach [] X.env) :
    PE X (.Call (.Name "sorted" p) [.Call (.Name "set" p2) [e] [] q] [] pos) (tA T.tx X.K W (do let xs ← ms; v1 (opM xs true (biD .sortedSet)))) := by
  have h1 : PE X (.Call (.Name "set" p2) [e] [] q) (tCB (rSetOfI X.K X.w) (tAs T.tx X.K W ms)) := pe_callTy (cr_setOfI C.calm) (isGl_gl C.hsc hg2) (C.fx.nb _ hb2) (by decide +kernel) ha (by decide) (by decide) he rfl
  refine (pe_callB (cr_sortedSetN C.calm) (isGl_gl C.hsc hg) (C.fx.nb _ hb) (by decide +kernel) (pa_cons h1 pa_nil) (by decide) (by decide)).mono fun σ H Q q => ?_
  have key : tAs T.tx X.K W ms σ H fun vs H1 => rSS X.K X.w vs H1 Q := by
    obtain ⟨Hs, e, A, R, g⟩ := q
    refine at_bind R g fun xs as e1 Hs1 H1 A1 s1 R1 r1 P1 => ?_
    exact op_use (fun _ => opA_sortedSet) opA_sortedSet.b R1 r1 (Pst_v1 P1) fun d v H' Hs' g s' R' rp => g v H' Hs' A1 (s1.trans s') R' rp
  refine tM_imp key fun vs H1 h => ?_
  obtain ⟨l, ns, rfl, hl, hf, q⟩ := h
  exact ⟨l, ns, rfl, hl, hf, fun a c n hc => ⟨a, _, c, rfl, upd_same, by omega, fun ms p hs hm _ hp => q a c p ms n hs (fun k => by rw [hm]; simp) hp⟩⟩
end
end Pv

/-! PvS5: isinstance, the module's dicts, methods, calls. -/
namespace Pv
open PySem PySem.Spec PyProof.Rows L2
variable [TabC]

/-! ### isinstance -/
def clsNames : List String := ["int", "bool", "str", "list", "tuple", "dict"]
theorem kit_table : (["NoneType", "bool", "int", "str", "list", "tuple", "dict"].all fun n => clsNames.all fun T => kitB n T == some (tyIs n T)) = true := by decide +kernel
theorem kit_isA {d : D} {T : String} (h : T ∈ clsNames) : kitB (tyName d) T = some (isA d T) := by
  have t := kit_table
  rw [List.all_eq_true] at t
  have n : tyName d ∈ ["NoneType", "bool", "int", "str", "list", "tuple", "dict"] := by cases d <;> simp [tyName]
  have t := t _ n
  rw [List.all_eq_true] at t
  exact beq_iff_eq.mp (t T h)
theorem cls_boot {T : String} (h : T ∈ clsNames) : bootBuiltins (Str.ofString T) = some (.type T) := by
  simp only [clsNames, List.mem_cons, List.not_mem_nil, or_false] at h
  rcases h with rfl | rfl | rfl | rfl | rfl | rfl <;> decide +kernel
theorem cls_plain {T : String} (h : T ∈ clsNames) : Str.ofString T ≠ "__name__" ∧ (Str.ofString T == ("__debug__" : Str)) = false := by
  simp only [clsNames, List.mem_cons, List.not_mem_nil, or_false] at h
  rcases h with rfl | rfl | rfl | rfl | rfl | rfl <;> decide +kernel
section
variable {K : PySem.W.Frag} {H Hs : Hp} {v : V}
theorem Rp.tyx {d : D} (s : Same Hs H) (r : Rp K Hs v d) : TyX K H v (.type (tyName d)) := by
  cases r with
  | non => exact .base .non
  | bl b => exact .base (.bl b)
  | int i => exact .base (.int i)
  | str x => exact .base (.str x)
  | lst q _ =>
    rcases sqL_mono s q with (q | ⟨o, q⟩) | ⟨o, _, _, q, c, _⟩
    · exact .base (.lst q)
    · exact .base (.frz q)
    · exact .kList q c
  | tup q _ =>
    rcases sqT_mono s q with (q | ⟨o, q⟩) | ⟨o, _, _, q, c, _⟩
    · exact .base (.tup q)
    · exact .fTuple q
    · exact .kTuple q c
  | dct q _ =>
    rcases rd_mono s q with q | ⟨o, q⟩
    · exact .base (.dK q)
    · exact .fDict q
theorem kitAny_isA {d : D} : ∀ {ts : List String}, (∀ T ∈ ts, T ∈ clsNames) → PySem.W.kitAny K (.type (tyName d)) (ts.map Value.type) = some (ts.any (isA d))
  | [], _ => kitAny_nil
  | T :: ts, h => by
    refine kitAny_cons (kit_ty (kit_isA (h T (by simp)))) (fun e => ?_) (fun e => ?_)
    · rw [List.any_cons, e, Bool.false_or]
      exact kitAny_isA fun U hU => h U (by simp [hU])
    · rw [List.any_cons, e, Bool.true_or]
end
section
variable {T : Txt} {P : Pr} {k : Nat} {N : List Str} {sc : Scope} {W : WX} {X : Cx}
theorem opB_isi1 {K : PySem.W.Frag} {t : String} (ht : t ∈ clsNames) : OpB K (fun xs H Q => ∃ x, xs = [x] ∧ rIsi K [x, .ty t] H Q) (biD (.isinst [t])) := by
  intro Hs H vs ds d Q s R e q
  match ds, e, R with
  | [a], e, R =>
    cases e
    obtain ⟨x, rfl, ra⟩ := R.one
    refine ⟨x, rfl, x, .ty t, .type (tyName a), .type t, _, rfl, .ty t, ra.tyx s, kit_ty (kit_isA ht), ?_⟩
    have z := q (.bl (([t].any (isA a)))) Hs H (.refl s) (.bl _)
    simpa using z
/-- isinstance(e, T) -/
theorem pv_isi1 (C : Cz T P k N sc W X) {t : String} {x : Str} {e : Expr} {m : M AV} {p p2 pos : Pos} (ht : t ∈ clsNames) (hx : x = Str.ofString t) (hb : ("isinstance" : Str) ∈ T.nb) (hbt : x ∈ T.nb) (hg : isGl sc "isinstance" = true) (hgt : isGl sc x = true)
    (h : PE X e (tA T.tx X.K W m)) (hs1 : starEach [e, .Name x p2] X.env = (false, eval e X.env) :: starEach [.Name x p2] X.env) (hs2 : starEach [.Name x p2] X.env = [(false, eval (.Name x p2) X.env)]) (hpl : (backTo pos (starEach [.Name x p2] X.env)).any (·.1) = false) :
    PE X (.Call (.Name "isinstance" p) [e, .Name x p2] [] pos) (tA T.tx X.K W (do let xs ← (do let y ← m; let ys ← (M.ret [] : M (List AV)); M.ret (y :: ys)); v1 (opM xs false (biD (.isinst [t]))))) := by
  subst hx
  have pt : PE X (.Name (Str.ofString t) p2) (tC (.ty t)) := pe_bltn (isGl_gl C.hsc hgt) (C.fx.nb _ hbt) (cls_boot ht) rfl (cls_plain ht).1 (cls_plain ht).2
  refine (pe_callB call_isi (isGl_gl C.hsc hg) (C.fx.nb _ hb) (by decide +kernel) (pa_cons h (pa_cons pt pa_nil hs2) hs1) (by decide) (by decide) hs1 hpl).mono fun σ H Q q => ?_
  obtain ⟨Hs, e, A, R, g⟩ := q
  refine at_run R (Pst.bind (Pst.bind g)) fun x a e1 Hs1 H1 A1 s1 R1 r1 P1 => ?_
  have P1 := Pst.later (show Pst T.tx X.K W A Hs H (v1 (opM [a] false (biD (.isinst [t]))) e1) (fun a e' => ∀ v H' Hs' A', Stp A Hs H A' Hs' H' → Rel X.K σ Hs' H' e' A' → rA X.K σ Hs' H' v a → Q v H') from P1) s1
  obtain ⟨x', e', q⟩ := op_use (fresh := false) (fun h => nomatch h) (opB_isi1 ht) R1 (AVrs.one r1) (Pst_v1 P1) fun d v H' Hs' g s' R' rp => g v H' Hs' A1 (s1.trans s') R' rp
  cases e'
  exact q
/-- names of built-in classes, from the left -/
theorem pa_cls (C : Cz T P k N sc W X) : ∀ {ts : List String} {ps : List Pos}, ps.length = ts.length → (∀ t ∈ ts, t ∈ clsNames ∧ Str.ofString t ∈ T.nb ∧ isGl sc (Str.ofString t) = true) →
    PA X ((ts.zip ps).map fun p => .Name (Str.ofString p.1) p.2) (fun _ H Q => Q (ts.map V.ty) H)
  | [], [], _, _ => pa_nil
  | t :: ts, p :: ps, hl, h => by
    obtain ⟨h1, h2, h3⟩ := h t (by simp)
    have pt : PE X (.Name (Str.ofString t) p) (tC (.ty t)) := pe_bltn (isGl_gl C.hsc h3) (C.fx.nb _ h2) (cls_boot h1) rfl (cls_plain h1).1 (cls_plain h1).2
    exact PA.mono (pa_cons pt (pa_cls C (ts := ts) (ps := ps) (by simpa using hl) fun u hu => h u (by simp [hu])) rfl) fun σ H Q q => q
theorem clsV_all : ∀ ts : List String, Paired ClsV (ts.map V.ty) (ts.map Value.type)
  | [] => .nil
  | t :: ts => .cons (.ty t) (clsV_all ts)
theorem opB_isiT {K : PySem.W.Frag} {ts : List String} (ht : ∀ t ∈ ts, t ∈ clsNames) : OpB K (fun xs H Q => ∃ x, xs = [x] ∧ ∀ p, H p = none → rIsiT K [x, .ref p] (upd H p (.tup (ts.map V.ty))) Q) (biD (.isinst ts)) := by
  intro Hs H vs ds d Q s R e q
  match ds, e, R with
  | [a], e, R =>
    cases e
    obtain ⟨x, rfl, ra⟩ := R.one
    refine ⟨x, rfl, fun p n => ?_⟩
    have xx := Ext.laidO (o := .tup (ts.map V.ty)) s n
    exact ⟨x, p, ts.map V.ty, _, ts.map Value.type, _, rfl, upd_same, clsV_all ts, ra.tyx xx.sub, kitAny_isA ht, q _ Hs _ xx (.bl _)⟩
/-- isinstance(e, (T, ..)) -/
theorem pv_isiT (C : Cz T P k N sc W X) {ts : List String} {es : List Expr} {ps : List Pos} {e : Expr} {m : M AV} {p pt pos : Pos} {x1 : Nat} (hlen : ps.length = ts.length) (hn : ts.length ≤ 100)
    (ht : ∀ t ∈ ts, t ∈ clsNames ∧ Str.ofString t ∈ T.nb ∧ isGl sc (Str.ofString t) = true) (hes : es = (ts.zip ps).map fun p => .Name (Str.ofString p.1) p.2) (hb : ("isinstance" : Str) ∈ T.nb) (hg : isGl sc "isinstance" = true)
    (h : PE X e (tA T.tx X.K W m)) (hs1 : starEach [e, .Tuple es x1 pt] X.env = (false, eval e X.env) :: starEach [.Tuple es x1 pt] X.env) (hs2 : starEach [.Tuple es x1 pt] X.env = [(false, eval (.Tuple es x1 pt) X.env)]) (hpl : (backTo pos (starEach [.Tuple es x1 pt] X.env)).any (·.1) = false) :
    PE X (.Call (.Name "isinstance" p) [e, .Tuple es x1 pt] [] pos) (tA T.tx X.K W (do let xs ← (do let y ← m; let ys ← (M.ret [] : M (List AV)); M.ret (y :: ys)); v1 (opM xs false (biD (.isinst ts))))) := by
  subst hes
  have pt := pe_tup (x1 := x1) (pos := pt) (pa_cls C hlen ht)
  refine (pe_callB call_isiT (isGl_gl C.hsc hg) (C.fx.nb _ hb) (by decide +kernel) (pa_cons h (pa_cons pt pa_nil hs2) hs1) (by decide) (by decide) hs1 hpl).mono fun σ H Q q => ?_
  obtain ⟨Hs, e, A, R, g⟩ := q
  refine at_run R (Pst.bind (Pst.bind g)) fun x a e1 Hs1 H1 A1 s1 R1 r1 P1 => ?_
  have P1 := Pst.later (show Pst T.tx X.K W A Hs H (v1 (opM [a] false (biD (.isinst ts))) e1) (fun a e' => ∀ v H' Hs' A', Stp A Hs H A' Hs' H' → Rel X.K σ Hs' H' e' A' → rA X.K σ Hs' H' v a → Q v H') from P1) s1
  refine ⟨by rw [List.length_map, sizeLine_eq]; omega, fun p n => ?_⟩
  obtain ⟨x', e', q⟩ := op_use (fresh := false) (fun h => nomatch h) (opB_isiT fun t h => (ht t h).1) R1 (AVrs.one r1) (Pst_v1 P1) fun d v H' Hs' g s' R' rp => g v H' Hs' A1 (s1.trans s') R' rp
  cases e'
  exact q p n

/-! ### the module's dicts -/
theorem pv_kidx (C : Cz T P k N sc W X) {g : Nat} {x : Str} {a : Expr} {m : M AV} {p pos : Pos} {kvs : List (D × D)} (hk : P.G[g]? = some (.dict kvs)) (h1 : T.gl[g]? = some x) (h2 : isGl sc x = true) (h3 : plainName x = true) (h : PE X a (tA T.tx X.K W m)) (hs : PlainIx a) :
    PE X (.Subscript (.Name x p) a pos) (tA T.tx X.K W (do let y ← m; let d ← valM y; v1 (ofO (kidxD P.G[g]? d)))) := by
  obtain ⟨d, es, n, hm, kd, hf⟩ := C.fx.kd g x kvs h1 hk
  have pd : PE X (.Name x p) (tC (.ref d)) := pe_glob (isGl_gl C.hsc h2) hm rfl (plainName_1 h3)
  refine (pe_ix ix_kdict pd h hs).mono fun σ H Q q => ?_
  obtain ⟨Hs, e, A, R, z⟩ := q
  refine at_bind R z fun v a e1 Hs1 H1 A1 s1 R1 r1 P1 => ?_
  obtain ⟨d1, rfl, P2⟩ := valM_inv P1.bind
  obtain ⟨d2, hd, P3⟩ := ofO_inv (Pst_v1 P2)
  clear P1 P2
  rw [hk] at hd
  obtain ⟨z, rfl⟩ : ∃ z, d1 = .str z := by cases d1 <;> first | exact ⟨_, rfl⟩ | (simp [kidxD] at hd)
  simp only [kidxD] at hd
  have hz := hf z
  rw [hd] at hz
  obtain ⟨u, w, hn, rw', rp⟩ := hz
  exact ⟨d, z, w, rfl, Rp.str_inv r1, ⟨es, n, u, kd.at_, kd.lit, hn, rw'⟩, P3 w H1 Hs1 A1 s1 R1 (rp _)⟩
theorem kfind_ns {K : PySem.W.Frag} {d : Addr} {kvs : List (D × D)} {z : Str} (h : match kfind z kvs with
      | none => PySem.W.nsIn K d z = some none
      | some r => ∃ u v, PySem.W.nsIn K d z = some (some u) ∧ RelV v u ∧ ∀ H, Rp K H v r) : ∃ r : Option Value, PySem.W.nsIn K d z = some r ∧ r.isSome = (kfind z kvs).isSome := by
  cases q : kfind z kvs with
  | none => rw [q] at h; exact ⟨none, h, rfl⟩
  | some r => rw [q] at h; obtain ⟨u, v, hn, _⟩ := h; exact ⟨some u, hn, rfl⟩
theorem pv_kin (C : Cz T P k N sc W X) {neg : Bool} {op : CmpOp} (hop : op = if neg then .NotIn else .In) {g : Nat} {x : Str} {a : Expr} {m : M AV} {p pos : Pos} {kvs : List (D × D)} (hk : P.G[g]? = some (.dict kvs)) (h1 : T.gl[g]? = some x) (h2 : isGl sc x = true) (h3 : plainName x = true)
    (h : PE X a (tA T.tx X.K W m)) (hm : behindInMarks op (.Name x p) = false) :
    PE X (.Compare a [op] [.Name x p] pos) (tA T.tx X.K W (do let y ← m; let d ← valM y; v1 (ofO (kinD P.G[g]? d neg)))) := by
  obtain ⟨d, es, n, hmg, kd, hf⟩ := C.fx.kd g x kvs h1 hk
  have pd : PE X (.Name x p) (tC (.ref d)) := pe_glob (isGl_gl C.hsc h2) hmg rfl (plainName_1 h3)
  cases neg with
  | true =>
    subst hop
    refine (pe_cmpR (op_notIn_kd kd) h pd hm).mono fun σ H Q q => ?_
    obtain ⟨Hs, e, A, R, z⟩ := q
    refine at_bind R z fun v a e1 Hs1 H1 A1 s1 R1 r1 P1 => ?_
    obtain ⟨d1, rfl, P2⟩ := valM_inv P1.bind
    obtain ⟨d2, hd, P3⟩ := ofO_inv (Pst_v1 P2)
    clear P1 P2
    rw [hk] at hd
    obtain ⟨z, rfl⟩ : ∃ z, d1 = .str z := by cases d1 <;> first | exact ⟨_, rfl⟩ | (simp [kinD] at hd)
    cases hd
    obtain ⟨r, hn, hr⟩ := kfind_ns (hf z)
    refine ⟨z, r, Rp.str_inv r1, rfl, hn, ?_⟩
    rw [hr]
    exact P3 _ H1 Hs1 A1 s1 R1 (.bl _)
  | false =>
    subst hop
    refine (pe_cmpR (op_in_kd kd) h pd hm).mono fun σ H Q q => ?_
    obtain ⟨Hs, e, A, R, z⟩ := q
    refine at_bind R z fun v a e1 Hs1 H1 A1 s1 R1 r1 P1 => ?_
    obtain ⟨d1, rfl, P2⟩ := valM_inv P1.bind
    obtain ⟨d2, hd, P3⟩ := ofO_inv (Pst_v1 P2)
    clear P1 P2
    rw [hk] at hd
    obtain ⟨z, rfl⟩ : ∃ z, d1 = .str z := by cases d1 <;> first | exact ⟨_, rfl⟩ | (simp [kinD] at hd)
    cases hd
    obtain ⟨r, hn, hr⟩ := kfind_ns (hf z)
    refine ⟨z, r, Rp.str_inv r1, rfl, hn, ?_⟩
    rw [hr]
    exact P3 _ H1 Hs1 A1 s1 R1 (.bl _)

theorem tst_val {m : M AV} {σ : L2.St} {H : Hp} {Q : Bool → Hp → Prop} (h : tT T.tx X.K W (tstM m) σ H Q) : tA T.tx X.K W m σ H fun x H' => ∃ k, x = .bl k ∧ Q k H' := by
  obtain ⟨Hs, e, A, R, g⟩ := h
  refine at_bind R g fun v a e1 Hs1 H1 A1 s1 R1 r1 P1 => ?_
  obtain ⟨d, rfl, P2⟩ := valM_inv P1.bind
  obtain ⟨c, rfl, P3⟩ := boolM_inv P2
  exact ⟨c, Rp.bool_inv r1, P3 c H1 Hs1 A1 s1 R1 rfl⟩
theorem pv_kinT (C : Cz T P k N sc W X) {neg : Bool} {op : CmpOp} (hop : op = if neg then .NotIn else .In) {g : Nat} {x : Str} {a : Expr} {m : M AV} {p pos : Pos} {kvs : List (D × D)} (hk : P.G[g]? = some (.dict kvs)) (h1 : T.gl[g]? = some x) (h2 : isGl sc x = true) (h3 : plainName x = true)
    (h : PE X a (tA T.tx X.K W m)) (hm : behindInMarks op (.Name x p) = false) :
    PT X (.Compare a [op] [.Name x p] pos) (tT T.tx X.K W (tstM (do let y ← m; let d ← valM y; v1 (ofO (kinD P.G[g]? d neg))))) := by
  obtain ⟨d, es, n, hmg, kd, hf⟩ := C.fx.kd g x kvs h1 hk
  have pd : PE X (.Name x p) (tC (.ref d)) := pe_glob (isGl_gl C.hsc h2) hmg rfl (plainName_1 h3)
  cases neg with
  | true =>
    subst hop
    refine (pt_cmpR (op_notIn_kd kd) h pd hm).mono fun σ H Q q => ?_
    obtain ⟨Hs, e, A, R, z⟩ := tst_val q
    refine at_bind R z fun v a e1 Hs1 H1 A1 s1 R1 r1 P1 => ?_
    obtain ⟨d1, rfl, P2⟩ := valM_inv P1.bind
    obtain ⟨d2, hd, P3⟩ := ofO_inv (Pst_v1 P2)
    clear P1 P2
    rw [hk] at hd
    obtain ⟨z, rfl⟩ : ∃ z, d1 = .str z := by cases d1 <;> first | exact ⟨_, rfl⟩ | (simp [kinD] at hd)
    cases hd
    obtain ⟨r, hn, hr⟩ := kfind_ns (hf z)
    refine ⟨z, r, Rp.str_inv r1, rfl, hn, ?_⟩
    rw [hr]
    exact P3 _ H1 Hs1 A1 s1 R1 (.bl _)
  | false =>
    subst hop
    refine (pt_cmpR (op_in_kd kd) h pd hm).mono fun σ H Q q => ?_
    obtain ⟨Hs, e, A, R, z⟩ := tst_val q
    refine at_bind R z fun v a e1 Hs1 H1 A1 s1 R1 r1 P1 => ?_
    obtain ⟨d1, rfl, P2⟩ := valM_inv P1.bind
    obtain ⟨d2, hd, P3⟩ := ofO_inv (Pst_v1 P2)
    clear P1 P2
    rw [hk] at hd
    obtain ⟨z, rfl⟩ : ∃ z, d1 = .str z := by cases d1 <;> first | exact ⟨_, rfl⟩ | (simp [kinD] at hd)
    cases hd
    obtain ⟨r, hn, hr⟩ := kfind_ns (hf z)
    refine ⟨z, r, Rp.str_inv r1, rfl, hn, ?_⟩
    rw [hr]
    exact P3 _ H1 Hs1 A1 s1 R1 (.bl _)

/-! ### methods that change nothing -/
/-- x.join(e) -/
theorem pv_join (C : Cz T P k N sc W X) {o e : Expr} {mo m : M AV} {apos pos : Pos} (ho : PE X o (tA T.tx X.K W mo)) (h : PE X e (tA T.tx X.K W m)) (hs : starEach [e] X.env = [(false, eval e X.env)])
    (hbase : attributeBase o "join" X.env (eval o X.env) = eval o X.env) (hline : (apos.endLine == pos.line) = true) :
    PE X (.Call (.Attribute o "join" apos) [e] [] pos) (tA T.tx X.K W (do
      let x ← mo
      let d ← valM x
      let _ ← ofO (if meT .join d then some () else none)
      let xs ← (do let y ← m; let ys ← (M.ret [] : M (List AV)); M.ret (y :: ys))
      v1 (opM xs false (meD .join d)))) := by
  refine (pe_join ho h hs hbase hline).mono fun σ H Q q => ?_
  obtain ⟨Hs, e, A, R, g⟩ := q
  refine at_bind R g fun x a e1 Hs1 H1 A1 s1 R1 r1 P1 => ?_
  obtain ⟨d, rfl, P2⟩ := valM_inv P1.bind
  obtain ⟨_, c, P3⟩ := ofO_inv (Pst.bind P2)
  clear P1 P2
  split at c
  · rename_i ht
    obtain ⟨z, rfl⟩ : ∃ z, d = .str z := by cases d <;> first | exact ⟨_, rfl⟩ | (simp [meT] at ht)
    cases Rp.str_inv r1
    refine ⟨⟨_, rfl⟩, at_run R1 (Pst.bind (Pst.bind P3)) fun y b e2 Hs2 H2 A2 s2 R2 r2 P2 => ?_⟩
    have P2 := Pst.later (show Pst T.tx X.K W A1 Hs1 H1 (v1 (opM [b] false (meD .join (.str z))) e2) (fun a e' => ∀ v H' Hs' A', Stp A Hs H A' Hs' H' → Rel X.K σ Hs' H' e' A' → rA X.K σ Hs' H' v a → Q v H') from P2) s2
    exact op_use (fresh := false) (r := fun xs H Q => rJoin X.K (.str z) xs H Q) (fun h => nomatch h) opB_join R2 (AVrs.one r2) (Pst_v1 P2) fun d v H' Hs' g s' R' rp => g v H' Hs' A2 ((s1.trans s2).trans s') R' rp
  · cases c
end
end Pv

/-! PvS6: calls of the text's own defs. -/
namespace Pv
open PySem PySem.Spec PyProof.Rows L2
variable [TabC]

section
variable {K : PySem.W.Frag} {σ : L2.St} {Hs H : Hp} {e : En} {A : Nat → List Addr}
/-- a new own value is shared -/
theorem Rel.share {A0 : Nat → List Addr} {Hs0 H0 : Hp} (R : Rel K σ Hs H e A) (s : Stp A0 Hs0 H0 A Hs H) {m : Nat} {v : V} {d : D} {l : List Addr} (o : Own K Hs H m v d l) (f : Fre A0 H0 A Hs l) :
    ∃ Hs', Stp A0 Hs0 H0 A Hs' H ∧ Rel K σ Hs' H e A ∧ Rp K Hs' v d := by
  classical
  let Hs' : Hp := fun a => match Hs a with
    | some u => some u
    | none => if a ∈ l then H a else none
  have s1 : Same Hs Hs' := fun a u h => by show Hs' a = _; simp only [Hs', h]
  have s2 : Same Hs' H := fun a u h => by
    have h : (match Hs a with | some u => some u | none => if a ∈ l then H a else none) = some u := h
    cases q : Hs a with
    | some w => rw [q] at h; cases h; exact R.sub _ _ q
    | none =>
      rw [q] at h
      simp only at h
      split at h
      · exact h
      · cases h
  have e1 : ∀ a ∈ l, Hs' a = H a := fun a ha => by
    show (match Hs a with | some u => some u | none => if a ∈ l then H a else none) = H a
    rw [f.hs a ha]
    exact if_pos ha
  have e2 : ∀ a, a ∉ l → Hs a = none → Hs' a = none := fun a ha h => by
    show (match Hs a with | some u => some u | none => if a ∈ l then H a else none) = none
    rw [h]
    exact if_neg ha
  refine ⟨Hs', ⟨s.hs.trans s1, s.fr, s.new, fun a h => ?_, s.tb⟩, ⟨R.len, s2, fun j d' h => ?_, fun j m' d' h => ?_, R.nd, R.dj, fun j a h => ?_, R.em, R.tb, fun a t => e2 a (fun z => (let ⟨_, q1, q2⟩ := Own.cont m o a z; isTab.noc R.tb q1 q2 t)) (R.nt a t)⟩, Own.rp s1 m e1 o⟩
  · by_cases q : Hs a = none
    · by_cases ha : a ∈ l
      · exact .inr (f.new a ha)
      · exact absurd (e2 a ha q) h
    · exact s.shn a q
  · obtain ⟨w, a, b⟩ := R.sh j d' h
    exact ⟨w, a, b.up s1⟩
  · obtain ⟨w, a, b⟩ := R.ow j m' d' h
    exact ⟨w, a, Own.mono s1 m' (fun _ _ _ h => h) b⟩
  · exact e2 a (fun z => f.dj j a z h) (R.fr j a h)
end

/-! ### arguments -/
/-- the parameters' values -/
def srcVs (vs : List V) : List Sr → Option (List V)
  | [] => some []
  | .ar j :: r => (match vs[j]?, srcVs vs r with
    | some v, some l => some (v :: l)
    | _, _ => none)
  | .df d :: r => (match immV d, srcVs vs r with
    | some v, some l => some (v :: l)
    | _, _ => none)
theorem srcV_vals : ∀ {src : List Sr} {us : List Value} {vs : List V} {zs : List Value}, Vals vs us → SrcV src us zs → ∃ ws, srcVs vs src = some ws ∧ Vals ws zs
  | [], us, vs, [], r, h => ⟨[], rfl, .nil⟩
  | [], _, _, _ :: _, _, h => h.elim
  | .ar j :: src, us, vs, [], r, h => h.elim
  | .df d :: src, us, vs, [], r, h => h.elim
  | .ar j :: src, us, vs, z :: zs, r, ⟨h1, h2⟩ => by
    obtain ⟨ws, h3, h4⟩ := srcV_vals r h2
    have hj : j < us.length := (List.getElem?_eq_some_iff.mp h1).1
    have hv : j < vs.length := by rw [r.length]; exact hj
    obtain ⟨u, hu, rv⟩ := r.get (List.getElem?_eq_getElem hv)
    rw [h1] at hu
    cases hu
    exact ⟨vs[j] :: ws, by simp [srcVs, List.getElem?_eq_getElem hv, h3], .cons rv h4⟩
  | .df d :: src, us, vs, z :: zs, r, ⟨⟨v, hv, rv⟩, h2⟩ => by
    obtain ⟨ws, h3, h4⟩ := srcV_vals r h2
    exact ⟨v :: ws, by simp [srcVs, hv, h3], .cons rv h4⟩
/-- the own cells of each parameter -/
def argA (A : Nat → List Addr) (ms : List (Option Nat)) : Nat → List Addr := fun j => match ms[j]? with
  | some (some i) => A i
  | _ => []
section
variable {K : PySem.W.Frag} {σ : L2.St} {Hs H : Hp} {e : En} {A : Nat → List Addr}
theorem AVrs.length : ∀ {vs : List V} {as : List AV}, AVrs K σ Hs vs as → vs.length = as.length
  | _, _, .nil => rfl
  | _, _, .cons _ r => by simp [AVrs.length r]
theorem AVrs.get : ∀ {vs : List V} {as : List AV} {j : Nat} {a : AV}, AVrs K σ Hs vs as → as[j]? = some a → ∃ v, vs[j]? = some v ∧ AVr K σ Hs v a
  | _, _, 0, _, .cons p _, h => by simp at h; subst h; exact ⟨_, rfl, p⟩
  | _, _, j + 1, _, .cons _ r, h => by
    obtain ⟨v, h1, h2⟩ := AVrs.get (j := j) r (by simpa using h)
    exact ⟨v, by simpa using h1, h2⟩
  | _, _, _, _, .nil, h => by simp at h
/-- what stands at each parameter -/
structure ArgAt (K : PySem.W.Frag) (σ : L2.St) (Hs H : Hp) (e : En) (A : Nat → List Addr) (v : V) (s : Sl) (m : Option Nat) : Prop where
  sh : ∀ d, s = .sh d → m = none ∧ Rp K Hs v d
  ow : ∀ w d, s = .ow w d → ∃ i, m = some i ∧ e[i]? = some (.ow w d) ∧ σ[i]? = some (some v) ∧ Own K Hs H w v d (A i)
  no : s ≠ .no
inductive ArgsAt (K : PySem.W.Frag) (σ : L2.St) (Hs H : Hp) (e : En) (A : Nat → List Addr) : List V → En → List (Option Nat) → Prop
  | nil : ArgsAt K σ Hs H e A [] [] []
  | cons {v : V} {s : Sl} {m : Option Nat} {vs : List V} {ss : En} {ms : List (Option Nat)} : ArgAt K σ Hs H e A v s m → ArgsAt K σ Hs H e A vs ss ms → ArgsAt K σ Hs H e A (v :: vs) (s :: ss) (m :: ms)
theorem args_at (R : Rel K σ Hs H e A) {vs : List V} {as : List AV} (av : AVrs K σ Hs vs as) : ∀ {src : List Sr} {ea : En} {ws : List V}, fillS e as src = some ea → srcVs vs src = some ws → ArgsAt K σ Hs H e A ws ea (ownSl as src)
  | [], ea, ws, h1, h2 => by cases h1; cases h2; exact .nil
  | .df d :: src, ea, ws, h1, h2 => by
    simp only [fillS] at h1
    simp only [srcVs] at h2
    cases q1 : fillS e as src with
    | none => rw [q1] at h1; cases h1
    | some l =>
      cases q2 : immV d with
      | none => rw [q2] at h2; cases h2
      | some v =>
        cases q3 : srcVs vs src with
        | none => rw [q2, q3] at h2; cases h2
        | some l' =>
          rw [q1] at h1; rw [q2, q3] at h2
          cases h1; cases h2
          exact .cons ⟨fun d' z => (by cases z; exact ⟨rfl, immV_rp q2⟩), fun w d' z => (by cases z), by simp⟩ (args_at R av q1 q3)
  | .ar j :: src, ea, ws, h1, h2 => by
    simp only [fillS] at h1
    simp only [srcVs] at h2
    cases q0 : as[j]? with
    | none => rw [q0] at h1; cases h1
    | some a =>
      rw [q0] at h1
      simp only at h1
      cases q1 : slotOf e a with
      | none => rw [q1] at h1; cases h1
      | some s =>
        cases q2 : fillS e as src with
        | none => rw [q1, q2] at h1; cases h1
        | some l =>
          rw [q1, q2] at h1
          cases h1
          obtain ⟨v, hv, rv⟩ := av.get q0
          rw [hv] at h2
          cases q3 : srcVs vs src with
          | none => rw [q3] at h2; cases h2
          | some l' =>
            rw [q3] at h2
            cases h2
            simp only [ownSl, q0]
            refine .cons ?_ (args_at R av q2 q3)
            cases a with
            | val d =>
              cases q1
              exact ⟨fun d' z => (by cases z; exact ⟨rfl, rv⟩), fun w d' z => (by cases z), by simp⟩
            | own i =>
              simp only [slotOf] at q1
              split at q1
              · rename_i w d hi
                cases q1
                obtain ⟨u, h1, h2⟩ := R.ow i w d hi
                have rv' : σ[i]? = some (some v) := rv
                rw [h1] at rv'
                cases rv'
                exact ⟨fun d' z => (by cases z), fun w' d' z => (by cases z; exact ⟨i, rfl, hi, h1, h2⟩), by simp⟩
              · cases q1
theorem ArgsAt.lens : ∀ {vs : List V} {ss : En} {ms : List (Option Nat)}, ArgsAt K σ Hs H e A vs ss ms → vs.length = ss.length ∧ ss.length = ms.length
  | _, _, _, .nil => ⟨rfl, rfl⟩
  | _, _, _, .cons _ r => by obtain ⟨a, b⟩ := ArgsAt.lens r; simp [a, b]
theorem ArgsAt.get : ∀ {vs : List V} {ss : En} {ms : List (Option Nat)} {j : Nat} {s : Sl}, ArgsAt K σ Hs H e A vs ss ms → ss[j]? = some s → ∃ v m, vs[j]? = some v ∧ ms[j]? = some m ∧ ArgAt K σ Hs H e A v s m
  | _, _, _, 0, _, .cons p _, h => by simp at h; subst h; exact ⟨_, _, rfl, rfl, p⟩
  | _, _, _, j + 1, _, .cons _ r, h => by
    obtain ⟨v, m, h1, h2, h3⟩ := ArgsAt.get (j := j) r (by simpa using h)
    exact ⟨v, m, by simpa using h1, by simpa using h2, h3⟩
  | _, _, _, _, _, .nil, h => by simp at h
theorem ArgsAt.getM : ∀ {vs : List V} {ss : En} {ms : List (Option Nat)} {j i : Nat}, ArgsAt K σ Hs H e A vs ss ms → ms[j]? = some (some i) → ∃ v w d, vs[j]? = some v ∧ ss[j]? = some (.ow w d) ∧ e[i]? = some (.ow w d) ∧ σ[i]? = some (some v)
  | _, _, _, 0, i, .cons (v := v) (s := s) p _, h => by
    simp at h
    subst h
    cases s with
    | no => exact absurd rfl p.no
    | sh d => exact absurd (p.sh d rfl).1 (by simp)
    | ow w d =>
      obtain ⟨i', e', h1, h2, _⟩ := p.ow w d rfl
      cases e'
      exact ⟨v, w, d, rfl, rfl, h1, h2⟩
  | _, _, _, j + 1, i, .cons _ r, h => by
    obtain ⟨v, w, d, h1, h2, h3⟩ := ArgsAt.getM (j := j) r (by simpa using h)
    exact ⟨v, w, d, by simpa using h1, by simpa using h2, h3⟩
  | _, _, _, _, _, .nil, h => by simp at h
theorem nodup_ms : ∀ {ms : List (Option Nat)} {j j' i : Nat}, (ms.filterMap id).Nodup → ms[j]? = some (some i) → ms[j']? = some (some i) → j = j'
  | [], j, j', i, _, h, _ => by simp at h
  | m :: ms, j, j', i, nd, h1, h2 => by
    have mem : ∀ {q : Nat}, ms[q]? = some (some i) → i ∈ ms.filterMap id := fun {q} h => List.mem_filterMap.mpr ⟨some i, List.mem_of_getElem? h, rfl⟩
    cases m with
    | none =>
      cases j with
      | zero => simp at h1
      | succ j =>
        cases j' with
        | zero => simp at h2
        | succ j' =>
          have := nodup_ms (ms := ms) (j := j) (j' := j') (i := i) (by simpa using nd) (by simpa using h1) (by simpa using h2)
          rw [this]
    | some q =>
      simp only [List.filterMap_cons, id, List.nodup_cons] at nd
      cases j with
      | zero =>
        cases j' with
        | zero => rfl
        | succ j' =>
          simp at h1
          subst h1
          exact absurd (mem (by simpa using h2)) nd.1
      | succ j =>
        cases j' with
        | zero =>
          simp at h2
          subst h2
          exact absurd (mem (by simpa using h1)) nd.1
        | succ j' =>
          have := nodup_ms (ms := ms) (j := j) (j' := j') (i := i) nd.2 (by simpa using h1) (by simpa using h2)
          rw [this]
/-- the callee's slots at its entry -/
theorem args_rel (R : Rel K σ Hs H e A) {ws : List V} {ea : En} {ms : List (Option Nat)} (a : ArgsAt K σ Hs H e A ws ea ms) (nd : (ms.filterMap id).Nodup) : Rel K (ws.map some) Hs H ea (argA A ms) where
  len := by rw [List.length_map]; exact a.lens.1
  sub := R.sub
  sh := fun j d h => by
    obtain ⟨v, m, h1, h2, p⟩ := a.get h
    exact ⟨v, by simp [h1], (p.sh d rfl).2⟩
  ow := fun j w d h => by
    obtain ⟨v, m, h1, h2, p⟩ := a.get h
    obtain ⟨i, rfl, _, _, o⟩ := p.ow w d rfl
    refine ⟨v, by simp [h1], ?_⟩
    unfold argA
    rw [h2]
    exact o
  nd := fun j => by
    unfold argA
    split
    · exact R.nd _
    · exact List.nodup_nil
  dj := fun j j' x h1 h2 => by
    unfold argA at h1 h2
    split at h1
    · rename_i i hi
      split at h2
      · rename_i i' hi'
        have := R.dj _ _ x h1 h2
        subst this
        exact nodup_ms nd hi hi'
      · cases h2
    · cases h1
  fr := fun j x h => by
    unfold argA at h
    split at h
    · exact R.fr _ x h
    · cases h
  em := fun j h => by
    unfold argA
    split
    · rename_i i hi
      obtain ⟨v, w, d, _, h2, _⟩ := a.getM hi
      exact absurd h2 (h w d)
    · rfl
  tb := R.tb
  nt := R.nt
theorem backS_len : ∀ (ms : List (Option Nat)) (o e : En), (backS ms o e).length = e.length
  | [], _, _ => rfl
  | none :: ms, [], _ => rfl
  | some _ :: ms, [], _ => rfl
  | none :: ms, s :: o, e => backS_len ms o e
  | some i :: ms, s :: o, e => by
    show (backS ms o (e.set i s)).length = _
    rw [backS_len ms o]; simp
theorem backS_out : ∀ (ms : List (Option Nat)) (o e : En) (i : Nat), (∀ j : Nat, ms[j]? ≠ some (some i)) → (backS ms o e)[i]? = e[i]?
  | [], _, _, _, _ => rfl
  | none :: ms, [], _, _, _ => rfl
  | some _ :: ms, [], _, _, _ => rfl
  | none :: ms, s :: o, e, i, h => backS_out ms o e i fun j z => h (j + 1) (by simpa using z)
  | some q :: ms, s :: o, e, i, h => by
    show (backS ms o (e.set q s))[i]? = _
    rw [backS_out ms o _ i fun j z => h (j + 1) (by simpa using z)]
    have : q ≠ i := fun z => h 0 (by simp [z])
    exact List.getElem?_set_ne this
theorem backS_in : ∀ (ms : List (Option Nat)) (o e : En) (i j : Nat) (s : Sl), (ms.filterMap id).Nodup → i < e.length → ms[j]? = some (some i) → o[j]? = some s → (backS ms o e)[i]? = some s
  | [], _, _, _, _, _, _, _, h, _ => by simp at h
  | none :: ms, [], _, _, _, _, _, _, _, h => by simp at h
  | some _ :: ms, [], _, _, _, _, _, _, _, h => by simp at h
  | none :: ms, s' :: o, e, i, j, s, nd, il, h1, h2 => by
    cases j with
    | zero => simp at h1
    | succ j => exact backS_in ms o e i j s (by simpa using nd) il (by simpa using h1) (by simpa using h2)
  | some q :: ms, s' :: o, e, i, j, s, nd, il, h1, h2 => by
    show (backS ms o (e.set q s'))[i]? = _
    simp only [List.filterMap_cons, id, List.nodup_cons] at nd
    cases j with
    | zero =>
      simp at h1 h2
      subst h1 h2
      rw [backS_out ms o _ q fun j z => nd.1 (List.mem_filterMap.mpr ⟨some q, List.mem_of_getElem? z, rfl⟩)]
      exact List.getElem?_set_self il
    | succ j => exact backS_in ms o _ i j s nd.2 (by simpa using il) (by simpa using h1) (by simpa using h2)
open Classical in
/-- the caller's own cells behind the call -/
noncomputable def backA (ms : List (Option Nat)) (A' A : Nat → List Addr) : Nat → List Addr := fun i => if h : ∃ j : Nat, ms[j]? = some (some i) then A' h.choose else A i
theorem backA_in {ms : List (Option Nat)} {A' A : Nat → List Addr} {i j : Nat} (nd : (ms.filterMap id).Nodup) (h : ms[j]? = some (some i)) : backA ms A' A i = A' j := by
  have hx : ∃ j : Nat, ms[j]? = some (some i) := ⟨j, h⟩
  unfold backA
  rw [dif_pos hx, nodup_ms nd hx.choose_spec h]
theorem backA_out {ms : List (Option Nat)} {A' A : Nat → List Addr} {i : Nat} (h : ∀ j : Nat, ms[j]? ≠ some (some i)) : backA ms A' A i = A i := by
  unfold backA
  rw [dif_neg]
  rintro ⟨j, hj⟩
  exact h j hj
/-- the caller's slots behind the call -/
theorem back_rel (R : Rel K σ Hs H e A) {ws : List V} {ea o : En} {ms : List (Option Nat)} (a : ArgsAt K σ Hs H e A ws ea ms) (nd : (ms.filterMap id).Nodup) {Hs' H' : Hp} {A' : Nat → List Addr}
    (s : Stp (argA A ms) Hs H A' Hs' H') (R' : Rel K (ws.map some) Hs' H' o A') :
    Stp A Hs H (backA ms A' A) Hs' H' ∧ Rel K σ Hs' H' (backS ms o e) (backA ms A' A) := by
  have keep : ∀ i, (∀ j : Nat, ms[j]? ≠ some (some i)) → ∀ x ∈ A i, ∀ u, H x = some u → H' x = some u := fun i hi x hx u hu => by
    refine s.fr x u hu (fun j hj => ?_) fun t => (let ⟨_, q1, q2⟩ := R.own_some hx; isTab.noc R.tb q1 q2 t)
    unfold argA at hj
    split at hj
    · rename_i q hq
      have := R.dj _ _ x hx hj
      subst this
      exact hi j hq
    · cases hj
  have ol : o.length = ms.length := by
    have h1 := R'.len
    rw [List.length_map] at h1
    rw [← h1, a.lens.1, a.lens.2]
  have anew : ∀ j x, x ∈ A' j → (∃ q i, ms[q]? = some (some i) ∧ x ∈ A i) ∨ H x = none := fun j x hx => by
    rcases s.new j x hx with ⟨q, hq⟩ | z
    · unfold argA at hq
      split at hq
      · rename_i i hi
        exact .inl ⟨q, i, hi, hq⟩
      · cases hq
    · exact .inr z
  have ash : ∀ x, Hs' x ≠ none → Hs x ≠ none ∨ (∃ q i, ms[q]? = some (some i) ∧ x ∈ A i) ∨ H x = none := fun x hx => by
    rcases s.shn x hx with z | ⟨q, hq⟩ | z
    · exact .inl z
    · unfold argA at hq
      split at hq
      · rename_i i hi
        exact .inr (.inl ⟨q, i, hi, hq⟩)
      · cases hq
    · exact .inr (.inr z)
  refine ⟨⟨s.hs, fun x u hu hn t => s.fr x u hu (fun j hj => ?_) t, fun i x hx => ?_, fun x hx => ?_, s.tb⟩, ⟨by rw [backS_len]; exact R.len, R'.sub, fun i d h => ?_, fun i w d h => ?_, fun i => ?_, fun i i' x h1 h2 => ?_, fun i x h => ?_, fun i h => ?_, R'.tb, R'.nt⟩⟩
  · unfold argA at hj
    split at hj
    · exact hn _ hj
    · cases hj
  · by_cases hi : ∃ j : Nat, ms[j]? = some (some i)
    · obtain ⟨j, hj⟩ := hi
      rw [backA_in nd hj] at hx
      rcases anew j x hx with ⟨q, i', _, z⟩ | z
      · exact .inl ⟨i', z⟩
      · exact .inr z
    · have hi : ∀ j : Nat, ms[j]? ≠ some (some i) := fun j z => hi ⟨j, z⟩
      rw [backA_out hi] at hx
      exact .inl ⟨i, hx⟩
  · rcases ash x hx with z | ⟨_, i, _, z⟩ | z
    · exact .inl z
    · exact .inr (.inl ⟨i, z⟩)
    · exact .inr (.inr z)
  · by_cases hi : ∃ j : Nat, ms[j]? = some (some i)
    · obtain ⟨j, hj⟩ := hi
      obtain ⟨v, w, d', h1, h2, h3, h4⟩ := a.getM hj
      have jl : j < o.length := by rw [ol]; exact (List.getElem?_eq_some_iff.mp hj).1
      rw [backS_in ms o e i j _ nd (List.getElem?_eq_some_iff.mp h3).1 hj (List.getElem?_eq_getElem jl)] at h
      have h' : o[j]? = some (.sh d) := by rw [List.getElem?_eq_getElem jl]; exact h
      obtain ⟨u, g1, g2⟩ := R'.sh j d h'
      rw [List.getElem?_map, h1] at g1
      cases g1
      exact ⟨v, h4, g2⟩
    · have hi : ∀ j : Nat, ms[j]? ≠ some (some i) := fun j z => hi ⟨j, z⟩
      rw [backS_out ms o e i hi] at h
      obtain ⟨v, g1, g2⟩ := R.sh i d h
      exact ⟨v, g1, g2.up s.hs⟩
  · by_cases hi : ∃ j : Nat, ms[j]? = some (some i)
    · obtain ⟨j, hj⟩ := hi
      obtain ⟨v, w', d', h1, h2, h3, h4⟩ := a.getM hj
      have jl : j < o.length := by rw [ol]; exact (List.getElem?_eq_some_iff.mp hj).1
      rw [backS_in ms o e i j _ nd (List.getElem?_eq_some_iff.mp h3).1 hj (List.getElem?_eq_getElem jl)] at h
      have h' : o[j]? = some (.ow w d) := by rw [List.getElem?_eq_getElem jl]; exact h
      obtain ⟨u, g1, g2⟩ := R'.ow j w d h'
      rw [List.getElem?_map, h1] at g1
      cases g1
      rw [backA_in nd hj]
      exact ⟨v, h4, g2⟩
    · have hi : ∀ j : Nat, ms[j]? ≠ some (some i) := fun j z => hi ⟨j, z⟩
      rw [backS_out ms o e i hi] at h
      rw [backA_out hi]
      obtain ⟨v, g1, g2⟩ := R.ow i w d h
      exact ⟨v, g1, Own.mono s.hs w (keep i hi) g2⟩
  · by_cases hi : ∃ j : Nat, ms[j]? = some (some i)
    · obtain ⟨j, hj⟩ := hi
      rw [backA_in nd hj]
      exact R'.nd j
    · have hi : ∀ j : Nat, ms[j]? ≠ some (some i) := fun j z => hi ⟨j, z⟩
      rw [backA_out hi]
      exact R.nd i
  · by_cases hi : ∃ j : Nat, ms[j]? = some (some i)
    · obtain ⟨j, hj⟩ := hi
      rw [backA_in nd hj] at h1
      by_cases hi' : ∃ j : Nat, ms[j]? = some (some i')
      · obtain ⟨j', hj'⟩ := hi'
        rw [backA_in nd hj'] at h2
        have := R'.dj _ _ x h1 h2
        subst this
        rw [hj] at hj'
        cases hj'
        rfl
      · have hi' : ∀ j : Nat, ms[j]? ≠ some (some i') := fun j z => hi' ⟨j, z⟩
        rw [backA_out hi'] at h2
        rcases anew j x h1 with ⟨q, i2, hq, z⟩ | z
        · have := R.dj _ _ x h2 z
          subst this
          exact absurd hq (hi' q)
        · obtain ⟨u, hu, _⟩ := R.own_some h2
          rw [z] at hu; cases hu
    · have hi : ∀ j : Nat, ms[j]? ≠ some (some i) := fun j z => hi ⟨j, z⟩
      rw [backA_out hi] at h1
      by_cases hi' : ∃ j : Nat, ms[j]? = some (some i')
      · obtain ⟨j', hj'⟩ := hi'
        rw [backA_in nd hj'] at h2
        rcases anew j' x h2 with ⟨q, i2, hq, z⟩ | z
        · have := R.dj _ _ x h1 z
          subst this
          exact absurd hq (hi q)
        · obtain ⟨u, hu, _⟩ := R.own_some h1
          rw [z] at hu; cases hu
      · have hi' : ∀ j : Nat, ms[j]? ≠ some (some i') := fun j z => hi' ⟨j, z⟩
        rw [backA_out hi'] at h2
        exact R.dj _ _ x h1 h2
  · by_cases hi : ∃ j : Nat, ms[j]? = some (some i)
    · obtain ⟨j, hj⟩ := hi
      rw [backA_in nd hj] at h
      exact R'.fr j x h
    · have hi : ∀ j : Nat, ms[j]? ≠ some (some i) := fun j z => hi ⟨j, z⟩
      rw [backA_out hi] at h
      cases q : Hs' x with
      | none => rfl
      | some u =>
        rcases ash x (by rw [q]; simp) with z | ⟨j, i2, hj, z⟩ | z
        · exact absurd (R.fr i x h) z
        · have := R.dj _ _ x h z
          subst this
          exact absurd hj (hi j)
        · obtain ⟨o', e', _⟩ := R.own_some h
          rw [z] at e'; cases e'
  · by_cases hi : ∃ j : Nat, ms[j]? = some (some i)
    · obtain ⟨j, hj⟩ := hi
      rw [backA_in nd hj]
      refine R'.em j fun w d z => ?_
      obtain ⟨v, w', d', h1, h2, h3, h4⟩ := a.getM hj
      exact h w d (backS_in ms o e i j _ nd (List.getElem?_eq_some_iff.mp h3).1 hj z)
    · have hi : ∀ j : Nat, ms[j]? ≠ some (some i) := fun j z => hi ⟨j, z⟩
      rw [backA_out hi]
      exact R.em i fun w d z => h w d (by rw [backS_out ms o e i hi]; exact z)

variable {T : Txt} {P : Pr} {k : Nat} {N : List Str} {sc : Scope} {W : WX} {X : Cx}
/-- a def's value: own so deep, new -/
def rO (K : PySem.W.Frag) : L2.St → Hp → Hp → V → Nat × D → List Addr → Prop := fun _ Hs H v p l => Own K Hs H p.1 v p.2 l
/-- what is wanted of a value that is one's own -/
def tW (T : Tx) (K : PySem.W.Frag) (W : WX) (m : M (Nat × D)) : TE := fun σ H Q =>
  ∃ Hs e A, Rel K σ Hs H e A ∧ Pst T K W A Hs H (m e) fun p e' => ∀ v H' Hs' A' l, Stp A Hs H A' Hs' H' → Rel K σ Hs' H' e' A' → Own K Hs' H' p.1 v p.2 l → Fre A H A' Hs' l → Q v H'
theorem run_G (C : Cz T P k N sc W X) {f : Nat} {fm : Fm} {a : Addr} {fd : FuncData} {ps : List Str} (hG : FnG X.prog X.w X.K X.mg X.base k a fd ps (spF T X.K P k f))
    (hb : ∀ (s : Shared) (us ws : List Value), X.K.In s.heap → us.length = fm.np → ws.length = fm.ks.length → ∃ zs, BindsTo s fd ⟨us, fm.ks.zip ws⟩ (ps.zip zs) ∧ SrcV fm.src (us ++ ws) zs)
    {pins : List (Addr × Obj)} {σ : L2.St} {H : Hp} {s : Shared} {Q : VK} {us ws : List Value} {vs ys : List V} (I : Inv X pins σ H s) (r : Vals vs us) (rz : Vals ys ws) (hu : us.length = fm.np) (hw : ws.length = fm.ks.length)
    (h : ∀ zs, srcVs (vs ++ ys) fm.src = some zs → spF T X.K P k f zs H Q fun cls d H' => W cls d σ H') : wpAny (model X.prog X.w) X.A (call (.ref a) us (fm.ks.zip ws)) (EP X pins σ Q) X.xe s := by
  obtain ⟨zs, hb1, hb2⟩ := hb s us ws I.kIn hu hw
  obtain ⟨zv, h1, h2⟩ := srcV_vals (r.append rz) hb2
  refine wpAny_call (codeAny_mono (hG.run X.A X.stack s H ⟨us, fm.ks.zip ws⟩ zs zv Q _ C.room C.gd I.env0 hb1 h2 (h zv h1)) fun r s' hq => ?_)
  cases r with
  | error e => exact C.tk e s' (XE.of_call I (fun cls d H' hE => hE) hq)
  | ok fl =>
    cases fl with
    | ret u => exact I.after hq
    | next => exact False.elim hq
    | brk => exact False.elim hq
    | cont => exact False.elim hq
/-- from what the interpreter tells to the callee's promise -/
theorem call_sp {f : Nat} {as : List AV} {vs : List V} {src : List Sr} {good : Nat × D → En → Prop} {Q : VK} {zs : List V} (R : Rel X.K σ Hs H e A) (av : AVrs X.K σ Hs vs as) (hz : srcVs vs src = some zs)
    (P0 : Pst T.tx X.K W A Hs H (callM (cnOf P k) f as src e) good)
    (hQ : ∀ p e' v H' Hs' A' l, good p e' → Stp A Hs H A' Hs' H' → Rel X.K σ Hs' H' e' A' → Own X.K Hs' H' p.1 v p.2 l → Fre A H A' Hs' l → Q v H') : spF T X.K P k f zs H Q fun cls d H' => W cls d σ H' := by
  unfold callM at P0
  split at P0
  · rename_i nd
    cases q : fillS e as src with
    | none => rw [q] at P0; exact P0.elim
    | some ea =>
      rw [q] at P0
      simp only at P0
      have aa := args_at R av q hz
      refine ⟨Hs, ea, argA A (ownSl as src), args_rel R aa nd, ?_⟩
      cases q2 : run P k f ea with
      | bad => rw [q2] at P0; exact P0.elim
      | ok m d o =>
        rw [q2] at P0
        simp only
        intro v H' Hs' A' l st R' ow fre
        obtain ⟨st', R''⟩ := back_rel R aa nd st R'
        refine hQ (m, d) _ v H' Hs' _ l P0 st' R'' ow ⟨fre.nd, fre.hs, fun i b hb hi => ?_, fun b hb => ?_⟩
        · by_cases hx : ∃ j : Nat, (ownSl as src)[j]? = some (some i)
          · obtain ⟨j, hj⟩ := hx
            rw [backA_in nd hj] at hi
            exact fre.dj j b hb hi
          · have hx' : ∀ j : Nat, (ownSl as src)[j]? ≠ some (some i) := fun j z => hx ⟨j, z⟩
            rw [backA_out hx'] at hi
            rcases fre.new b hb with ⟨j, hj⟩ | z
            · unfold argA at hj
              split at hj
              · rename_i q hq
                have := R.dj _ _ b hi hj
                subst this
                exact hx' j hq
              · cases hj
            · obtain ⟨o', e', _⟩ := R.own_some hi
              rw [z] at e'; cases e'
        · rcases fre.new b hb with ⟨j, hj⟩ | z
          · unfold argA at hj
            split at hj
            · exact .inl ⟨_, hj⟩
            · cases hj
          · exact .inr z
      | ex x o =>
        rw [q2] at P0
        simp only
        intro H' Hs' A' cls dx st R' xr
        obtain ⟨st', R''⟩ := back_rel R aa nd st R'
        exact P0 σ H' Hs' _ cls dx st' R'' xr
  · exact P0.elim
theorem AVrs.append {K : PySem.W.Frag} {σ : L2.St} {Hs : Hp} : ∀ {vs ws : List V} {as bs : List AV}, AVrs K σ Hs vs as → AVrs K σ Hs ws bs → AVrs K σ Hs (vs ++ ws) (as ++ bs)
  | _, _, _, _, .nil, s => s
  | _, _, _, _, .cons a r, s => .cons a (AVrs.append r s)
/-- the arguments, then the call -/
theorem call_at {f : Nat} {ma mk : M (List AV)} {src : List Sr} {Q : VK} {σ : L2.St} {H : Hp} (h : tW T.tx X.K W (do let xs ← ma; let ys ← mk; callM (cnOf P k) f (xs ++ ys) src) σ H Q) :
    tAs T.tx X.K W ma σ H fun vs H1 => tAs T.tx X.K W mk σ H1 fun ys H2 => ∀ zs, srcVs (vs ++ ys) src = some zs → spF T X.K P k f zs H2 Q fun cls d H' => W cls d σ H' := by
  obtain ⟨Hs, e, A, R, g⟩ := h
  refine at_bind R g fun vs as e1 Hs1 H1 A1 s1 R1 r1 P1 => ?_
  refine at_bind R1 P1 fun ys bs e2 Hs2 H2 A2 s2 R2 r2 P2 => ?_
  intro zs hz
  refine call_sp R2 ((r1.up s2.hs).append r2) hz P2 fun p e' v H' Hs' A' l g s' R' ow fre => g v H' Hs' A' l ((s1.trans s2).trans s') R' ow ⟨fre.nd, fre.hs, fre.dj, fun b hb => ?_⟩
  rcases fre.new b hb with ⟨j, hj⟩ | z
  · rcases (s1.trans s2).new j b hj with y | y
    · exact .inl y
    · exact .inr y
  · exact (s1.trans s2).was z
theorem pk_nil' : PK X [] (tAs T.tx X.K W (M.ret [])) := ⟨fun pos pins s σ H Q I h => pk_nil.run pos pins s σ H Q I (by
  obtain ⟨Hs, e, A, R, g⟩ := h
  exact g [] H Hs A .refl R .nil)⟩
theorem pk_cons' {nm : Option Str} {e : Expr} {kpos : Pos} {kws : List Keyword} {m : M AV} {ms : M (List AV)} (h : PE X e (tA T.tx X.K W m)) (hr : PK X kws (tAs T.tx X.K W ms)) :
    PK X (⟨nm, e, kpos⟩ :: kws) (tAs T.tx X.K W (do let x ← m; let xs ← ms; M.ret (x :: xs))) := ⟨fun pos pins s σ H Q I h' => (pk_cons h hr).run pos pins s σ H Q I (by
  obtain ⟨Hs, e, A, R, g⟩ := h'
  refine at_bind R g fun x a e1 Hs1 H1 A1 s1 R1 r1 P1 => ?_
  refine at_bind R1 P1 fun xs as e2 Hs2 H2 A2 s2 R2 r2 P2 => ?_
  exact P2 (x :: xs) H2 Hs2 A2 (s1.trans s2) R2 (.cons (r1.up s2.hs) r2))⟩
theorem Pst.eq {α : Type} {Tx : Tx} {K : PySem.W.Frag} {A : Nat → List Addr} {Hs H : Hp} {r : R α} {g : α → En → Prop} (h : Pst Tx K W A Hs H r g) : Pst Tx K W A Hs H r fun a e' => r = .ok a e' ∧ g a e' := by
  cases r with
  | ok a e => exact ⟨rfl, h⟩
  | ex x e => exact h
  | bad => exact h
/-- how many there are -/
theorem tAs_len {m : M (List AV)} {n : Nat} (hn : ∀ e xs e', m e = .ok xs e' → xs.length = n) {σ : L2.St} {H : Hp} {Q : List V → Hp → Prop} (h : tAs T.tx X.K W m σ H Q) : tAs T.tx X.K W m σ H fun vs H' => vs.length = n ∧ Q vs H' := by
  obtain ⟨Hs, e, A, R, g⟩ := h
  exact ⟨Hs, e, A, R, g.eq.imp fun a e' ⟨q, g⟩ v H' Hs' A' s r rr => ⟨by rw [AVrs.length rr]; exact hn _ _ _ q, g v H' Hs' A' s r rr⟩⟩
/-- f(e, ..), f(e, .., k = v, ..), f(k = v, ..), f() -/
theorem pv_callW (C : Cz T P k N sc W X) {f km : Nat} {x : Str} {fm : Fm} {es : List Expr} {kws : List Keyword} {ma mk : M (List AV)} {p pos : Pos} (hx : T.fn[f]? = some x) (hfm : T.fms[km]? = some fm) (hf : fm.f = f) (hg : isGl sc x = true) (hp : plainName x = true)
    (hes : ∀ e r, es = e :: r → starEach (e :: r) X.env = (false, eval e X.env) :: starEach r X.env ∧ (backTo pos (starEach r X.env)).any (·.1) = false ∧ ((backTo pos (starEach (e :: r) X.env)).any (·.1) || (backToKw pos (keywordEach kws X.env)).any (·.1.isNone)) = false)
    (hno : es = [] → ((backTo pos (starEach [] X.env)).any (·.1) || (backToKw pos (keywordEach kws X.env)).any (·.1.isNone)) = false)
    (hmn : es = [] → ma = M.ret []) (hkn : (backToKw pos (keywordEach kws X.env)).all (·.1.isSome) = true) (hks : (backToKw pos (keywordEach kws X.env)).filterMap (·.1) = fm.ks)
    (la : ∀ e xs e', ma e = .ok xs e' → xs.length = fm.np) (lk : ∀ e xs e', mk e = .ok xs e' → xs.length = fm.ks.length)
    (ha : PA X es (tAs T.tx X.K W ma)) (hk : PK X kws (tAs T.tx X.K W mk)) :
    PE X (.Call (.Name x p) es kws pos) (tW T.tx X.K W (do let xs ← ma; let ys ← mk; callM (cnOf P k) f (xs ++ ys) fm.src)) := by
  obtain ⟨a, fd, ps, hm, hkp, hG, hB⟩ := C.fx.fn f x hx
  have hb := hB fm (List.mem_of_getElem? hfm) hf
  refine ⟨fun pins s σ H Q I h => ?_⟩
  have h := call_at h
  have h := tAs_len la h
  refine wpAny_Call_Name_kw (ld_glob I (isGl_gl C.hsc hg) hm ?_ (plainName_1 hp))
  -- what comes behind the arguments
  have fin : ∀ (s1 : Shared) (us : List Value) (vs : List V) (H1 : Hp), Inv X pins σ H1 s1 → Vals vs us → (vs.length = fm.np ∧ tAs T.tx X.K W mk σ H1 fun ys H2 => ∀ zs, srcVs (vs ++ ys) fm.src = some zs → spF T X.K P k f zs H2 Q fun cls d H' => W cls d σ H') →
      wpAny (model X.prog X.w) X.A (evalAll ((backToKw pos (keywordEach kws X.env)).map (·.2))) (fun ks s₂ => X.K.In s₂.heap ∧ wpAny (model X.prog X.w) X.A (call (.ref a) us (((backToKw pos (keywordEach kws X.env)).filterMap (·.1)).zip ks)) (EP X pins σ Q) X.xe s₂) X.xe s1 := fun s1 us vs H1 I1 r ⟨hl, q⟩ => by
    refine thn (hk.run pos pins s1 σ H1 _ I1 (tAs_len lk q)) fun ws s2 ⟨ys, H2, I2, rz, hl2, q2⟩ => ⟨I2.kIn, ?_⟩
    rw [hks]
    exact run_G C hG hb I2 r rz (by rw [← r.length]; exact hl) (by rw [← rz.length]; exact hl2) q2
  cases es with
  | nil =>
    have em := hmn rfl
    subst em
    refine PySem.W.callWith_KW0 (h₀ := X.base) I.ok.mod.kin hkp hkn ?_ (hno rfl)
    obtain ⟨Hs, e, A, R, g⟩ := h
    exact fin s [] [] H I .nil (g [] H Hs A .refl R .nil)
  | cons e r =>
    obtain ⟨h1, h2, h3⟩ := hes e r rfl
    refine PySem.W.callWith_KW (h₀ := X.base) I.ok.mod.kin hkp hkn ?_ h3 h1
    exact thn (ha.run pos pins s σ H _ I h) fun us s1 ⟨vs, H1, I1, r1, q⟩ => fin s1 us vs H1 I1 r1 q
/-- a value of one's own, shared at once -/
theorem tW_val {m : M (Nat × D)} {σ : L2.St} {H : Hp} {Q : VK} (h : tA T.tx X.K W (do let p ← m; M.ret (.val p.2)) σ H Q) : tW T.tx X.K W m σ H Q := by
  obtain ⟨Hs, e, A, R, g⟩ := h
  refine ⟨Hs, e, A, R, g.bind.imp fun p e' g v H' Hs' A' l s R' ow fre => ?_⟩
  obtain ⟨Hs2, s2, R2, rp⟩ := R'.share s ow fre
  exact g v H' Hs2 A' s2 R2 rp
theorem pv_call {e : Expr} {m : M (Nat × D)} (h : PE X e (tW T.tx X.K W m)) : PE X e (tA T.tx X.K W (do let p ← m; M.ret (.val p.2))) := h.mono fun σ H Q q => tW_val q
end
end Pv

/-! PvS7: what is walked; targets. -/
namespace Pv
open PySem PySem.Spec PyProof.Rows L2
variable [TabC]

/-! ### enumerate(tuple) -/
section
open AutoSeq1 (wpAny_loadPart')
set_option maxHeartbeats 1000000 in
theorem meets_enumerate_newT (l : Addr) (items : Array Value) :
    Meets (Builtin.«enumerate.__new__» ⟨[.type "enumerate", .ref l], []⟩) (fun _ R s => s.heap.IsTuple l items ∧
      R (.ok (.ret (.ref (s.heap.push { cls := .type "tuple_iterator", data := .fields #[.ref l, .int 0 0] }).objs.size)))
        { s with heap := (s.heap.push { cls := .type "tuple_iterator", data := .fields #[.ref l, .int 0 0] }).push { cls := .type "enumerate", data := .fields #[.none, .bool false, .ref s.heap.objs.size, rawInt 0, .none, .none] } }) :=
  .of_wp fun prog w A R s h => by
    obtain ⟨hp, g, d, tk, os⟩ := s; obtain ⟨hl, h⟩ := h
    have hsub := sub_enumerate
    wp_walk
    refine wpAny_stack_any fun st => wpAny_pure ?_
    split
    · rename_i c _ _ _ _ _
      cases (c == Value.type "enumerate")
      · wp_walk using wpAny_pyIter_tuple hl
        exact ⟨_, rfl, h⟩
      · wp_walk using wpAny_pyIter_tuple hl
        exact ⟨_, rfl, h⟩
    · wp_walk using wpAny_pyIter_tuple hl
      exact ⟨_, rfl, h⟩
theorem call_enumerate_tuple {prog : Program} {w : World} {A : Around} {E : Value → Shared → Prop} {s : Shared} {l : Addr} {items : Array Value} {Q : Value → Shared → Prop} (hL : s.heap.IsTuple l items)
    (h : ∀ h', IsEnum h' (s.heap.objs.size + 1) s.heap.objs.size 0 .none → h'.IsTupleIter s.heap.objs.size l 0 → h'.objs.size = s.heap.objs.size + 2 →
      (∀ b o, s.heap.get? b = some o → h'.get? b = some o) → Q (.ref (s.heap.objs.size + 1)) { s with heap := h' }) :
    wpAny (model prog w) A (call (.type "enumerate") [.ref l]) Q E s := by
  refine callType_new F.called_enumerate (by decide) (F.typeCall_enumerate_1 _) (F.newCall_enumerate_1 _) (fun obj => F.args_object_init_2 obj _) F.entry_enumerate_new
    (meets_enumerate_newT l items) ⟨hL, ?_⟩
  have hz : (s.heap.push { cls := .type "tuple_iterator", data := .fields #[.ref l, .int 0 0] }).objs.size = s.heap.objs.size + 1 := Heap.size_push ..
  show _ ∧ _
  rw [hz]
  have he : IsEnum ((s.heap.push { cls := .type "tuple_iterator", data := .fields #[.ref l, .int 0 0] }).push
      { cls := .type "enumerate", data := .fields #[.none, .bool false, .ref s.heap.objs.size, rawInt 0, .none, .none] }) (s.heap.objs.size + 1) s.heap.objs.size 0 .none := by
    have := Heap.get?_push_size (s.heap.push { cls := .type "tuple_iterator", data := .fields #[.ref l, .int 0 0] })
      (o := { cls := .type "enumerate", data := .fields #[.none, .bool false, .ref s.heap.objs.size, rawInt 0, .none, .none] }) rfl
    rw [hz] at this; exact this
  refine ⟨⟨_, he, rfl⟩, h _ he ⟨_, Heap.get?_push_of_some _ (Heap.get?_push_size _ rfl), rfl, rfl⟩ (by rw [Heap.size_push, hz]) fun b o x => Heap.get?_push_of_some _ (Heap.get?_push_of_some _ x)⟩
end
/-- the tuple at a, each item in a new pair -/
def IteT (K : PySem.W.Frag) (a : Addr) : L2.It :=
  ⟨fun i H => ∃ (xs : List V) (x : V), SqT K H a xs ∧ xs[i]? = some x, fun i H v H' => ∃ T x, v = .ref T ∧ H T = none ∧ H' = upd H T (.tup [.int (i : Nat), x]) ∧ ∀ xs, SqT K H a xs → xs[i]? = some x, fun i H => ∃ xs : List V, SqT K H a xs ∧ xs.length ≤ i⟩
theorem turn_enumT {P : Program} {w : World} {K : PySem.W.Frag} {elts : List Expr} {kk : Nat} {tpos : Pos} (a e it : Addr) :
    Turn P w K (.Tuple elts kk tpos) (IteT K a) [e, it] e (fun i h => (∃ old, IsEnum h e it ((i : Nat) : Int) old) ∧ h.IsTupleIter it a i ∧ e ≠ it) where
  mem := by simp
  obj := fun i h st b hb => by
    obtain ⟨⟨old, he⟩, ⟨o, ho, hc, hd⟩, _⟩ := st
    have e' : b = e ∨ b = it := by simpa using hb
    rcases e' with z | z
    · rw [z]; exact ⟨_, he, fun v q => nomatch q⟩
    · rw [z]; exact ⟨o, ho, fun v q => by rw [hd] at q; cases q⟩
  keep := fun i h h' st k => let ⟨⟨old, he⟩, hi, hne⟩ := st; ⟨⟨old, k e (by simp) _ he⟩, hi.at fun o q => k it (by simp) o q, hne⟩
  item := by
    intro X hP hw hK hc i pins s σ H E I hf st hg
    subst hP hw hK
    obtain ⟨⟨old, he⟩, hit, hne⟩ := st
    obtain ⟨xs, x, hq, hx⟩ := hg
    obtain ⟨its, rv, p, hz⟩ := I.tuple hq
    obtain ⟨u, hu, ru⟩ := rv.get hx
    have hel : e < s.heap.objs.size := Heap.lt_size he
    have hil : it < s.heap.objs.size := by obtain ⟨_, q, _⟩ := hit; exact Heap.lt_size q
    have hia : a ≠ it := by
      rintro rfl
      obtain ⟨o, q, hc1, _⟩ := hit
      obtain ⟨o', q', hc2, _⟩ := p
      rw [q] at q'; cases q'
      rw [hc1] at hc2
      exact absurd hc2 (by decide)
    have hea : e ∉ ([it, a] : List Addr) := by
      intro z
      rcases List.mem_cons.mp z with z | z
      · exact hne z
      · have z : e = a := by simpa using z
        subst z
        obtain ⟨o', q', hc2, _⟩ := p
        have he' : s.heap.get? e = some _ := he
        rw [he'] at q'
        have hcc := congrArg (·.cls) (Option.some.inj q')
        have hcc : Value.type "enumerate" = o'.cls := hcc
        rw [hc2] at hcc
        exact absurd hcc (by decide)
    refine wpAny_pyNext_enum_itemD (Draws.tuple (prog := X.prog) (w := X.w) (A := X.A.in1) (I.ok.hd hc) it a hia its.toArray) he ⟨hit, p⟩ (by simpa only [List.size_toArray] using (List.getElem?_eq_some_iff.mp hu).1) hne hea fun y h' tk hP ho hit' hT hsz hk => ?_
    have ey : y = u := by
      rw [List.getElem?_toArray] at hP
      rw [hu] at hP; cases hP; rfl
    subst ey
    refine ⟨_, rfl, wpAny_letOwnedTupleGo_enum (s := { s with heap := h', toks := tk + 1 }) ho fun h'' he' sb => ?_⟩
    have hT2 : h''.get? s.heap.objs.size = some { cls := .type "tuple", data := .seq #[.int i tk, y] } := (sb.2 _ (Nat.ne_of_gt hel)).trans hT
    have new : ObjOk X.prog X.w (upd H s.heap.objs.size (.tup [.int (i : Nat), x])) h'' s.heap.objs.size (.tup [.int (i : Nat), x]) :=
      ⟨by show 2 ≤ sizeLine; decide, [.int i tk, y], .cons ⟨_, rfl⟩ (.cons ru .nil), ⟨_, hT2, rfl, _, rfl⟩⟩
    have I1 : Inv X pins σ (upd H s.heap.objs.size (.tup [.int (i : Nat), x])) { s with heap := h'', toks := tk + 1 } :=
      I.turnedNew (ch := [e, it]) (fun b ob hb q => (sb.2 b (fun z => hb (by simp [z]))).trans (hk b ob (fun z => hb (by simp [z])) (fun z => hb (by simp [z])) q)) hf (Nat.le_refl _) new
    refine ⟨.ref s.heap.objs.size, _, I1, rfl, ⟨_, x, rfl, I.hok.fresh (Nat.le_refl _), rfl, fun ys hy => by rw [I.tuple_inj hy hq]; exact hx⟩, ⟨⟨y, ?_⟩, hit'.1.at fun o q => (sb.2 it (Ne.symm hne)).trans q, hne⟩, fun b hb => ?_⟩
    · have e1 : ((i + 1 : Nat) : Int) = (i : Int) + 1 := by omega
      rw [e1]; exact he'
    · have hb' : b < s.heap.objs.size := by
        have e' : b = e ∨ b = it := by simpa using hb
        rcases e' with z | z
        · rw [z]; exact hel
        · rw [z]; exact hil
      rw [upd_ne (Nat.ne_of_lt hb')]
      exact (hf b hb).1
  done := by
    intro X hP hw hK hc i pins s σ H E I hf st hg
    subst hP hw hK
    obtain ⟨⟨old, he⟩, hit, hne⟩ := st
    obtain ⟨xs, hq, hx⟩ := hg
    obtain ⟨its, rv, p, hz⟩ := I.tuple hq
    obtain ⟨f0, f1, f2, f3, f4, f5⟩ := hf it (by simp)
    have hl := rv.length
    have hx' : its.toArray[i]? = none := by rw [List.getElem?_toArray]; exact List.getElem?_eq_none (by omega)
    have hT : s.TypeIs (.ref e) "enumerate" := ⟨_, he, rfl⟩
    unfold pyNext
    refine wpAny_bind (wpAny_attempt (wpAny_callSpecial?_slot (name := Str.ofString "__next__") hT F.slot_enumerate_next
      (wpAny_call_entry F.slot_enumerate_next hT F.entry_enumerate_next ?_ (F.args_enumerate_next_1 _))))
    show wpAny _ _ (field (.ref e) 2 >>= _) _ _ _
    refine wpAny_bind (wpAny_field he rfl (x := .ref it) rfl ?_)
    refine wpAny_bind (wpAny_nextOf_tuple_end (I.ok.hd hc) hit p hx' fun h' x he' hx' => ?_)
    obtain ⟨o, ho, hc'⟩ := hx'
    refine wpAny_bind (wpAny_isInstance (T := "StopIteration") (b := true) ⟨o, ho, hc'⟩ isSubtype_stop ?_)
    exact wpAny_pure ⟨rfl, I.turned (t' := s.toks) (fun b o hb e => he' b o hb e) f0 f1 f3 f4 f5⟩
  self := fun A i s Q E st h => let ⟨⟨_, he⟩, _⟩ := st; wpAny_pyIter_enum he h
def iEnumA (K : PySem.W.Frag) (ta : TA) : TI := fun σ H R => ta σ H fun vs H1 => ∃ a xs, vs = [.ref a] ∧ ((SqL K H1 a xs ∧ R (Ite K a) H1) ∨ (SqT K H1 a xs ∧ R (IteT K a) H1))
theorem pi_enumA {X : Cx} {e : Expr} {ta : TA} {p pos tpos : Pos} {elts : List Expr} {kk : Nat} (hg : Gl X "enumerate") (hm : X.mg "enumerate" = none) (ha : PA X [e] ta) (hs : starEach [e] X.env = [(false, eval e X.env)] := by rfl) :
    PI X (.Tuple elts kk tpos) (.Call (.Name "enumerate" p) [e] [] pos) (iEnumA X.K ta) := by
  refine ⟨fun pins s σ H R I h => ?_⟩
  refine Call_ (ld_blt I hg hm boot_enumerate (PyProof.Rows.callWith_type1 (thn (ha.run pos pins s σ H _ I h) fun us s1 ⟨vs, H1, I1, r1, q1⟩ => ?_) hs rfl))
  obtain ⟨a, xs, ex, q1⟩ := q1
  subst ex
  cases r1 with
  | cons r rr =>
    cases rr
    cases r
    rcases q1 with ⟨hq, q⟩ | ⟨hq, q⟩
    · obtain ⟨its, rv, p', hz⟩ := I1.list hq
      refine call_enumerate_list p'.isList fun h' he hit hsz hk => wpAny_pyIter_enum he ?_
      have I2 : Inv X pins σ H1 { s1 with heap := h' } := I1.kept (t' := s1.toks) hk
      refine ⟨s1.heap.objs.size + 1, [s1.heap.objs.size + 1, s1.heap.objs.size], _, _, H1, rfl, I2, turn_enum a (s1.heap.objs.size + 1) s1.heap.objs.size, ⟨⟨.none, he⟩, hit, Nat.succ_ne_self _⟩, fun b hb => ?_, q⟩
      have e' : b = s1.heap.objs.size + 1 ∨ b = s1.heap.objs.size := by simpa using hb
      have hle : s1.heap.objs.size ≤ b := by
        rcases e' with z | z
        · rw [z]; exact Nat.le_add_right _ _
        · rw [z]; exact Nat.le_refl _
      exact I1.fpOk hle (I1.hok.fresh hle)
    · obtain ⟨its, rv, p', hz⟩ := I1.tuple hq
      refine call_enumerate_tuple (show s1.heap.IsTuple a its.toArray from p') fun h' he hit hsz hk => wpAny_pyIter_enum he ?_
      have I2 : Inv X pins σ H1 { s1 with heap := h' } := I1.kept (t' := s1.toks) hk
      refine ⟨s1.heap.objs.size + 1, [s1.heap.objs.size + 1, s1.heap.objs.size], _, _, H1, rfl, I2, turn_enumT a (s1.heap.objs.size + 1) s1.heap.objs.size, ⟨⟨.none, he⟩, hit, Nat.succ_ne_self _⟩, fun b hb => ?_, q⟩
      have e' : b = s1.heap.objs.size + 1 ∨ b = s1.heap.objs.size := by simpa using hb
      have hle : s1.heap.objs.size ≤ b := by
        rcases e' with z | z
        · rw [z]; exact Nat.le_add_right _ _
        · rw [z]; exact Nat.le_refl _
      exact I1.fpOk hle (I1.hok.fresh hle)
end Pv

/-! a list unpacked into names -/
namespace Pv
open PySem PyProof.Rows L2
variable [TabC]
section
variable {prog : Program} {w : World} {A : Around} {E : Value → Shared → Prop} {s : Shared}
theorem draw_list {it t : Addr} {items : Array Value} (hne : t ≠ it) : ∀ (n i : Nat) (s : Shared) (Q : List Value → Shared → Prop), s.heap.IsListIter it t i → s.heap.IsList t items → i + n ≤ items.size →
    (∀ h', h'.IsListIter it t (i + n) → Heap.SameBut it s.heap h' → Q ((items.toList.drop i).take n) { s with heap := h' }) → wpAny (model prog w) A (draw (.ref it) n) Q E s
  | 0, i, s, Q, hit, _, _, hQ => by
    show wpAny _ _ (pure []) Q E s
    exact wpAny_pure (by simpa using hQ s.heap hit (Heap.SameBut.refl ..))
  | n + 1, i, s, Q, hit, ht, hle, hQ => by
    have hlt : i < items.size := by omega
    show wpAny _ _ (pyNext (.ref it) >>= _) Q E s
    refine wpAny_bind (wpAny_pyNext_list_item hit ht (x := items[i]) (by simp [hlt]) fun h₁ hit₁ hs₁ => ?_)
    refine wpAny_bind (wpAny_holding (draw_list hne n (i + 1) _ _ hit₁ (ht.extBut hs₁.extBut hne) (by omega) fun h₂ hit₂ hs₂ => wpAny_pure ?_))
    have hd : items.toList.drop i = items[i] :: items.toList.drop (i + 1) := by simp [List.drop_eq_getElem_cons, hlt]
    have := hQ h₂ (by rw [show i + (n + 1) = i + 1 + n by omega]; exact hit₂) (hs₁.trans hs₂)
    rw [hd, List.take_succ_cons] at this
    exact this
theorem unpackItems_list {t : Addr} {items : Array Value} {Q : List Value → Shared → Prop} (hh : A.handled = none) (ht : s.heap.IsList t items)
    (hQ : ∀ h', Heap.ExtBut s.heap.objs.size s.heap h' → Q items.toList { s with heap := h' }) : wpAny (model prog w) A (unpackItems (.ref t) items.size none) Q E s := by
  have hlt : t ≠ s.heap.objs.size := by obtain ⟨o, ho, _⟩ := ht; exact Nat.ne_of_lt (Heap.lt_size ho)
  unfold unpackItems
  refine wpAny_bind ?_
  · unfold notIterableAtAll
    refine wpAny_bind (wpAny_specialOf ht.typeIs slot_list_iter.lookup ?_)
    refine wpAny_pure ?_
    simp only [Bool.false_eq_true, if_false]
    refine wpAny_bind (wpAny_holding (wpAny_pyIter_list ht ?_))
    refine wpAny_bind (wpAny_holding (draw_list hlt items.size 0 _ _ ⟨_, Heap.get?_push_size _ rfl, rfl, rfl⟩ (ht.push _) (by omega) fun h₁ hit₁ hs₁ => ?_))
    have hall : List.take items.size (List.drop 0 items.toList) = items.toList := by
      rw [List.drop_zero]; exact List.take_of_length_le (by simp)
    rw [hall]
    rw [if_neg (by simp)]
    have ht₁ : h₁.IsList t items := (ht.push _).extBut hs₁.extBut hlt
    refine wpAny_bind (wpAny_holding (wpAny_pyNext_list_end hh hit₁ ht₁ (by simp) fun h₂ he₂ => ?_))
    simp only [Option.isSome_none, Bool.false_eq_true, if_false]
    refine wpAny_pure (hQ h₂ fun b o hb e => he₂ b o hb (hs₁.extBut b o hb (Heap.get?_push_of_some _ e)))
theorem assign_Tuple_list {env : Env} {elts : List Expr} {x1} {pos : Pos} {t : Addr} {items : Array Value} {Q : Unit → Shared → Prop} (hh : A.handled = none) (ht : s.heap.IsList t items)
    (hn : (assignEach elts env).length = items.size) (hstar : (assignEach elts env).findIdx? (·.1) = none)
    (h : ∀ h', Heap.ExtBut s.heap.objs.size s.heap h' → wpAny (model prog w) A (assignInOrder ((assignEach elts env).map (·.2)) items.toList) Q E { s with heap := h' }) :
    wpAny (model prog w) A (assign (.Tuple elts x1 pos) env (.ref t)) Q E s := by
  rw [assign_Tuple]
  refine wpAny_bind (wpAny_standAt ?_)
  unfold unpack
  rw [hn, hstar]
  exact wpAny_bind (wpAny_holding (unpackItems_list hh ht h))
end
/-- (a, b, ..) = a tuple or a list of that length -/
def gSeq (K : PySem.W.Frag) (n : Nat) (t : TGs) : TG := fun v σ H Q => ∃ a xs, v = .ref a ∧ (SqT K H a xs ∨ SqL K H a xs) ∧ xs.length = n ∧ t xs σ H Q
section
variable {X : Cx} {pos : Pos}
theorem pg_seq {es : List Expr} {k : Nat} {t : TGs} {n : Nat} (hc : X.calm = true) (h : PGs X es t)
    (hn : (assignEach es X.env).length = n := by rfl) (hst : (assignEach es X.env).findIdx? (·.1) = none := by rfl) : PG X (.Tuple es k pos) (gSeq X.K n t) := by
  refine ⟨fun pins s σ H v u Q I r hw => ?_⟩
  obtain ⟨a, xs, e1, hq, hl, hw⟩ := hw
  subst e1
  cases r
  have go : ∀ h', Heap.ExtBut s.heap.objs.size s.heap h' → Inv X pins σ H { s with heap := h' } := fun h' hx => I.kept (t' := s.toks) fun b o e => hx b o (Nat.ne_of_lt (Heap.lt_size e)) e
  rcases hq with hq | hq
  · obtain ⟨its, rv, ht, hz⟩ := I.tuple hq
    refine assign_Tuple_tuple (I.ok.hd hc) ht (by simp [hn, ← hl, rv.length]) hst fun h' hx => ?_
    exact h.run pins _ σ H xs _ Q (go h' hx) (by simpa using rv) hw
  · obtain ⟨its, rv, ht, hz⟩ := I.list hq
    have ht' : s.heap.IsList a its.toArray := by
      obtain ⟨o, n, e, c, d, f⟩ := ht
      exact ⟨o, e, c, n, f⟩
    refine assign_Tuple_list (I.ok.hd hc) ht' (by simp [hn, ← hl, rv.length]) hst fun h' hx => ?_
    exact h.run pins _ σ H xs _ Q (go h' hx) (by simpa using rv) hw
end
end Pv

/-! PvS8: targets, what is walked, comprehensions. -/
namespace Pv
open PySem PySem.Spec PyProof.Rows L2
variable [TabC]

/-- σ' is as long as σ and the same where p holds -/
def Kp (p : Nat → Prop) (σ σ' : L2.St) : Prop := σ'.length = σ.length ∧ ∀ i, p i → σ'[i]? = σ[i]?
theorem Kp.refl {p : Nat → Prop} {σ : L2.St} : Kp p σ σ := ⟨rfl, fun _ _ => rfl⟩
theorem Kp.trans {p : Nat → Prop} {σ σ1 σ2 : L2.St} (a : Kp p σ σ1) (b : Kp p σ1 σ2) : Kp p σ σ2 := ⟨b.1.trans a.1, fun i h => (b.2 i h).trans (a.2 i h)⟩
theorem Kp.set {p : Nat → Prop} {σ : L2.St} {i : Nat} {v : Option V} (h : ¬ p i) : Kp p σ (σ.set i v) := ⟨by simp, fun j hj => List.getElem?_set_ne (fun z : i = j => h (by rw [z]; exact hj))⟩

/-- slot i forgets its cells -/
def noA (A : Nat → List Addr) (i : Nat) : Nat → List Addr := fun j => if j = i then [] else A j
section
variable {K : PySem.W.Frag} {σ : L2.St} {Hs H : Hp} {e : En} {A : Nat → List Addr}
theorem noA_mem {i j : Nat} {a : Addr} (h : a ∈ noA A i j) : a ∈ A j ∧ j ≠ i := by
  unfold noA at h
  split at h
  · cases h
  · rename_i q; exact ⟨h, q⟩
theorem noA_stp {i : Nat} : Stp A Hs H (noA A i) Hs H := ⟨Same.refl _, fun _ _ h _ _ => h, fun j a h => .inl ⟨j, (noA_mem h).1⟩, fun a h => .inl h, fun _ _ h => h⟩
theorem Rel.set_any (R : Rel K σ Hs H e A) (i : Nat) (s : Sl) (w : Option V) (h1 : ∀ d, s = .sh d → ∃ v, w = some v ∧ Rp K Hs v d) (h2 : ∀ m d, s ≠ .ow m d) : Rel K (σ.set i w) Hs H (e.set i s) (noA A i) where
  len := by simp [R.len]
  sub := R.sub
  sh := fun j d h => by
    by_cases hj : i = j
    · subst hj
      have il : i < e.length := by
        by_cases il : i < e.length
        · exact il
        · rw [List.set_eq_of_length_le (by omega)] at h
          exact (List.getElem?_eq_some_iff.mp h).1
      rw [List.getElem?_set_self il] at h
      obtain ⟨v, e1, r⟩ := h1 d (Option.some.inj h)
      exact ⟨v, by rw [List.getElem?_set_self (by rw [R.len]; exact il), e1], r⟩
    · rw [List.getElem?_set_ne hj] at h
      obtain ⟨v, a, b⟩ := R.sh j d h
      exact ⟨v, by rw [List.getElem?_set_ne hj]; exact a, b⟩
  ow := fun j m d h => by
    by_cases hj : i = j
    · subst hj
      have il : i < e.length := by
        by_cases il : i < e.length
        · exact il
        · rw [List.set_eq_of_length_le (by omega)] at h
          exact (List.getElem?_eq_some_iff.mp h).1
      rw [List.getElem?_set_self il] at h
      exact absurd (Option.some.inj h) (h2 m d)
    · rw [List.getElem?_set_ne hj] at h
      obtain ⟨v, a, b⟩ := R.ow j m d h
      refine ⟨v, by rw [List.getElem?_set_ne hj]; exact a, ?_⟩
      have : noA A i j = A j := if_neg (Ne.symm hj)
      rw [this]; exact b
  nd := fun j => by
    unfold noA
    split
    · exact List.nodup_nil
    · exact R.nd j
  dj := fun j j' a h h' => R.dj j j' a (noA_mem h).1 (noA_mem h').1
  fr := fun j a h => R.fr j a (noA_mem h).1
  em := fun j h => by
    unfold noA
    split
    · rfl
    · rename_i q
      exact R.em j fun m d z => h m d (by rw [List.getElem?_set_ne (Ne.symm q)]; exact z)
  tb := R.tb
  nt := R.nt
theorem Rel.set_sh (R : Rel K σ Hs H e A) {v : V} {d : D} (r : Rp K Hs v d) (i : Nat) : Rel K (σ.set i (some v)) Hs H (e.set i (.sh d)) (noA A i) :=
  R.set_any i _ _ (fun d' z => by cases z; exact ⟨v, rfl, r⟩) fun _ _ z => nomatch z
theorem Rel.set_no (R : Rel K σ Hs H e A) (i : Nat) (w : Option V) : Rel K (σ.set i w) Hs H (e.set i .no) (noA A i) :=
  R.set_any i _ _ (fun d' z => nomatch z) fun _ _ z => nomatch z
/-- slot i's cells are l -/
def inA (A : Nat → List Addr) (i : Nat) (l : List Addr) : Nat → List Addr := fun j => if j = i then l else A j
/-- a new own value is stored -/
theorem Rel.set_ow (R : Rel K σ Hs H e A) {v : V} {d : D} {m i : Nat} {l : List Addr} (il : i < e.length) (o : Own K Hs H m v d l) (nd : l.Nodup) (hs : ∀ a ∈ l, Hs a = none) (dj : ∀ j, j ≠ i → ∀ a ∈ l, a ∉ A j) :
    Rel K (σ.set i (some v)) Hs H (e.set i (.ow m d)) (inA A i l) where
  len := by simp [R.len]
  sub := R.sub
  sh := fun j d' h => by
    by_cases hj : i = j
    · subst hj
      rw [List.getElem?_set_self il] at h
      cases h
    · rw [List.getElem?_set_ne hj] at h
      obtain ⟨v, a, b⟩ := R.sh j d' h
      exact ⟨v, by rw [List.getElem?_set_ne hj]; exact a, b⟩
  ow := fun j m' d' h => by
    by_cases hj : i = j
    · subst hj
      rw [List.getElem?_set_self il] at h
      cases h
      refine ⟨v, by rw [List.getElem?_set_self (by rw [R.len]; exact il)], ?_⟩
      have : inA A i l i = l := if_pos rfl
      rw [this]; exact o
    · rw [List.getElem?_set_ne hj] at h
      obtain ⟨v', a, b⟩ := R.ow j m' d' h
      refine ⟨v', by rw [List.getElem?_set_ne hj]; exact a, ?_⟩
      have : inA A i l j = A j := if_neg (Ne.symm hj)
      rw [this]; exact b
  nd := fun j => by
    unfold inA
    split
    · exact nd
    · exact R.nd j
  dj := fun j j' a h h' => by
    unfold inA at h h'
    split at h
    · split at h'
      · rename_i q q'; exact q.trans q'.symm
      · rename_i q q'; exact absurd h' (dj j' q' a h)
    · split at h'
      · rename_i q q'; exact absurd h (dj j q a h')
      · exact R.dj j j' a h h'
  fr := fun j a h => by
    unfold inA at h
    split at h
    · exact hs a h
    · exact R.fr j a h
  em := fun j h => by
    unfold inA
    split
    · rename_i q
      subst q
      exact absurd (List.getElem?_set_self il) (h m d)
    · rename_i q
      exact R.em j fun m d z => h m d (by rw [List.getElem?_set_ne (Ne.symm q)]; exact z)
  tb := R.tb
  nt := R.nt
end

/-! ### targets -/
theorem _root_.L2.PG.mono {X : Cx} {e : Expr} {t u : TG} (h : PG X e t) (f : ∀ v σ H Q, u v σ H Q → t v σ H Q) : PG X e u := ⟨fun pins s σ H v w Q I r q => h.run pins s σ H v w Q I r (f v σ H Q q)⟩
theorem _root_.L2.PGs.mono {X : Cx} {e : List Expr} {t u : TGs} (h : PGs X e t) (f : ∀ v σ H Q, u v σ H Q → t v σ H Q) : PGs X e u := ⟨fun pins s σ H v w Q I r q => h.run pins s σ H v w Q I r (f v σ H Q q)⟩
def tG (T : Tx) (K : PySem.W.Frag) (W : WX) (p : Nat → Prop) (g : D → M Unit) : TG := fun v σ H Q => ∃ Hs e A d, Rel K σ Hs H e A ∧ Rp K Hs v d ∧ Pst T K W A Hs H (g d e) fun _ e' => ∀ σ' H' Hs' A', Stp A Hs H A' Hs' H' → Rel K σ' Hs' H' e' A' → Kp p σ σ' → Q σ' H'
def tGs (T : Tx) (K : PySem.W.Frag) (W : WX) (p : Nat → Prop) (g : List D → M Unit) : TGs := fun vs σ H Q => ∃ Hs e A ds, Rel K σ Hs H e A ∧ RpAll K Hs vs ds ∧ Pst T K W A Hs H (g ds e) fun _ e' => ∀ σ' H' Hs' A', Stp A Hs H A' Hs' H' → Rel K σ' Hs' H' e' A' → Kp p σ σ' → Q σ' H'
section
variable {X : Cx} {T : Tx} {W : WX} {p : Nat → Prop}
theorem pv_nm {i : Nat} {x : Str} {pos : Pos} (hN : X.N.Nodup) (hi : X.N[i]? = some x) (hx : Loc X.env.scope x) (hf : X.fn x = true ∨ X.env.scope.names.lookup x = some .local) (hp : ¬ p i) : PG X (.Name x pos) (tG T X.K W p (bindT (.nm i))) :=
  (pg_name hN hi hx hf).mono fun v σ H Q q => by
    obtain ⟨Hs, e, A, d, R, r, g⟩ := q
    exact g _ H Hs _ noA_stp (R.set_sh r i) (.set hp)
def tlen : Tgs → Nat
  | .nil => 0
  | .cons _ ts => tlen ts + 1
theorem bindTs_len : ∀ (ts : Tgs) (ds : List D) (e : En), bindT.bindTs ts ds e = .bad ∨ ds.length = tlen ts
  | .nil, [], e => .inr rfl
  | .nil, _ :: _, e => .inl rfl
  | .cons t ts, [], e => .inl rfl
  | .cons t ts, d :: ds, e => by
    show (bindT t d e).bind (fun _ => bindT.bindTs ts ds) = _ ∨ _
    cases q : bindT t d e with
    | ok a e' =>
      rcases bindTs_len ts ds e' with h | h
      · exact .inl h
      · exact .inr (by simp [tlen, h])
    | ex x e' =>
      exfalso
      exact bindT_noex t d e x e' q
    | bad => exact .inl rfl
where
  bindT_noex : ∀ (t : Tg) (d : D) (e : En) (x : Xn) (e' : En), bindT t d e ≠ .ex x e'
  | .nm i, d, e, x, e', h => by cases h
  | .tp ts, d, e, x, e', h => by
    cases d with
    | tuple ds => exact bindTs_noex ts ds e x e' h
    | list ds => exact bindTs_noex ts ds e x e' h
    | _ => cases h
  bindTs_noex : ∀ (t : Tgs) (d : List D) (e : En) (x : Xn) (e' : En), bindT.bindTs t d e ≠ .ex x e'
  | .nil, [], e, x, e', h => by cases h
  | .nil, _ :: _, e, x, e', h => by cases h
  | .cons _ _, [], e, x, e', h => by cases h
  | .cons t ts, d :: ds, e, x, e', h => by
    have h : (bindT t d e).bind (fun _ => bindT.bindTs ts ds) = .ex x e' := h
    cases q : bindT t d e with
    | ok a e1 => rw [q] at h; exact bindTs_noex ts ds e1 x e' h
    | ex x1 e1 => exact bindT_noex t d e _ _ q
    | bad => rw [q] at h; cases h
theorem pv_tgNil : PGs X [] (tGs T X.K W p (bindT.bindTs .nil)) := pgs_nil.mono fun vs σ H Q q => by
  obtain ⟨Hs, e, A, ds, R, r, g⟩ := q
  cases r with
  | nil => exact ⟨rfl, g σ H Hs A .refl R .refl⟩
  | cons _ _ => exact g.elim
theorem pv_tgCons {e : Expr} {es : List Expr} {t : Tg} {ts : Tgs} (h1 : PG X e (tG T X.K W p (bindT t))) (h2 : PGs X es (tGs T X.K W p (bindT.bindTs ts)))
    (hs : (assignEach (e :: es) X.env).map (·.2) = assign e X.env :: (assignEach es X.env).map (·.2)) : PGs X (e :: es) (tGs T X.K W p (bindT.bindTs (.cons t ts))) := (pgs_cons h1 h2 hs).mono fun vs σ H Q q => by
  obtain ⟨Hs, e, A, ds, R, r, g⟩ := q
  cases r with
  | nil => exact g.elim
  | cons a b =>
    refine ⟨_, _, rfl, Hs, e, A, _, R, a, (Pst.bind g).imp fun _ e' g' σ' H' Hs' A' s' R' k' => ?_⟩
    exact ⟨Hs', e', A', _, R', b.up s'.hs, (Pst.later g' s').imp fun _ e2 g2 σ2 H2 Hs2 A2 s2 R2 k2 => g2 σ2 H2 Hs2 A2 (s'.trans s2) R2 (k'.trans k2)⟩
theorem pv_tp {es : List Expr} {k : Nat} {ts : Tgs} {pos : Pos} (hc : X.calm = true) (h : PGs X es (tGs T X.K W p (bindT.bindTs ts))) (hn : (assignEach es X.env).length = tlen ts) (hst : (assignEach es X.env).findIdx? (·.1) = none) :
    PG X (.Tuple es k pos) (tG T X.K W p (bindT (.tp ts))) := (pg_seq hc h hn hst).mono fun v σ H Q q => by
  obtain ⟨Hs, e, A, d, R, r, g⟩ := q
  cases r with
  | tup sq rs =>
    refine ⟨_, _, rfl, .inl (sqT_mono R.sub sq), ?_, Hs, e, A, _, R, rs, g⟩
    rcases bindTs_len ts _ e with z | z
    · have g : Pst T X.K W A Hs H (bindT.bindTs ts _ e) _ := g
      rw [z] at g; exact g.elim
    · rw [rs.length, z]
  | lst sq rs =>
    refine ⟨_, _, rfl, .inr (sqL_mono R.sub sq), ?_, Hs, e, A, _, R, rs, g⟩
    rcases bindTs_len ts _ e with z | z
    · have g : Pst T X.K W A Hs H (bindT.bindTs ts _ e) _ := g
      rw [z] at g; exact g.elim
    · rw [rs.length, z]
  | _ => exact g.elim
end

/-! ### what is walked -/
/-- from Hs on, the walk J yields ds -/
def Wk (K : PySem.W.Frag) (Hs0 : Hp) (J : L2.It) (ds : List D) : Prop := ∀ Hs H, Same Hs0 Hs → Same Hs H → ∀ i : Nat,
  (∀ d, ds[i]? = some d → J.go i H ∧ ∀ x H', J.yld i H x H' → ∃ Hs', Ext Hs H Hs' H' ∧ Rp K Hs' x d) ∧ (ds.length ≤ i → J.stop i H)
theorem Wk.up {K : PySem.W.Frag} {Hs0 Hs1 : Hp} {J : L2.It} {ds : List D} (h : Wk K Hs0 J ds) (s : Same Hs0 Hs1) : Wk K Hs1 J ds := fun Hs H a b => h Hs H (s.trans a) b
abbrev tI (T : Tx) (K : PySem.W.Frag) (W : WX) (m : M (List D)) : TI := tM T K W (fun _ Hs _ J ds => Wk K Hs J ds) m
theorem _root_.L2.PI.mono {X : Cx} {tg e : Expr} {t u : TI} (h : PI X tg e t) (f : ∀ σ H Q, u σ H Q → t σ H Q) : PI X tg e u := ⟨fun pins s σ H Q I q => h.run pins s σ H Q I (f σ H Q q)⟩
section
variable {K : PySem.W.Frag} {Hs0 : Hp}
theorem wk_list {a : Addr} {xs : List V} {ds : List D} (sq : SqL K Hs0 a xs) (r : RpAll K Hs0 xs ds) : Wk K Hs0 (Itl K a) ds := fun Hs H s1 s2 i => by
  have q := sqL_mono s2 (sqL_mono s1 sq)
  refine ⟨fun d hd => ?_, fun hl => ⟨xs, q, by rw [r.length]; exact hl⟩⟩
  obtain ⟨v, hv, rv⟩ := r.get hd
  refine ⟨⟨xs, v, q, hv⟩, fun x H' y => ?_⟩
  obtain ⟨rfl, y⟩ := y
  have := y xs q
  rw [hv] at this
  cases this
  exact ⟨Hs, .refl s2, rv.up s1⟩
theorem wk_tup {a : Addr} {xs : List V} {ds : List D} (sq : SqT K Hs0 a xs) (r : RpAll K Hs0 xs ds) : Wk K Hs0 (Itt K a) ds := fun Hs H s1 s2 i => by
  have q := sqT_mono s2 (sqT_mono s1 sq)
  refine ⟨fun d hd => ?_, fun hl => ⟨xs, q, by rw [r.length]; exact hl⟩⟩
  obtain ⟨v, hv, rv⟩ := r.get hd
  refine ⟨⟨xs, v, q, hv⟩, fun x H' y => ?_⟩
  obtain ⟨rfl, y⟩ := y
  have := y xs q
  rw [hv] at this
  cases this
  exact ⟨Hs, .refl s2, rv.up s1⟩
theorem RpAll.rev {vs : List V} {ds : List D} (r : RpAll K Hs0 vs ds) {i : Nat} {d : D} (hd : ds.reverse[i]? = some d) : i < vs.length ∧ ∃ v, vs[vs.length - 1 - i]? = some v ∧ Rp K Hs0 v d := by
  have hi : i < ds.length := by have := (List.getElem?_eq_some_iff.mp hd).1; simpa using this
  rw [List.getElem?_reverse hi, ← r.length] at hd
  exact ⟨by rw [r.length]; exact hi, r.get hd⟩
theorem wk_rev {a : Addr} {xs : List V} {ds : List D} (sq : SqL K Hs0 a xs) (r : RpAll K Hs0 xs ds) : Wk K Hs0 (Itv K a xs.length) ds.reverse := fun Hs H s1 s2 i => by
  have q := sqL_mono s2 (sqL_mono s1 sq)
  refine ⟨fun d hd => ?_, fun hl => by rw [List.length_reverse, ← r.length] at hl; exact hl⟩
  obtain ⟨hi, v, hv, rv⟩ := r.rev hd
  refine ⟨⟨hi, xs, v, q, hv⟩, fun x H' y => ?_⟩
  obtain ⟨rfl, y⟩ := y
  have e := y xs q
  rw [hv] at e
  cases e
  exact ⟨Hs, .refl s2, rv.up s1⟩
theorem wk_revT {a : Addr} {xs : List V} {ds : List D} (sq : SqT K Hs0 a xs) (r : RpAll K Hs0 xs ds) : Wk K Hs0 (RT.ItvT K a xs.length) ds.reverse := fun Hs H s1 s2 i => by
  have q := sqT_mono s2 (sqT_mono s1 sq)
  refine ⟨fun d hd => ?_, fun hl => by rw [List.length_reverse, ← r.length] at hl; exact hl⟩
  obtain ⟨hi, v, hv, rv⟩ := r.rev hd
  refine ⟨⟨hi, xs, v, q, hv⟩, fun x H' y => ?_⟩
  obtain ⟨rfl, y⟩ := y
  have e := y xs q
  rw [hv] at e
  cases e
  exact ⟨Hs, .refl s2, rv.up s1⟩
theorem wk_str (x : Str) : Wk K Hs0 (Its x) (x.cps.toList.map fun c => .str ⟨#[c]⟩) := fun Hs H s1 s2 i => by
  refine ⟨fun d hd => ?_, fun hl => (by simpa using hl : x.cps.size ≤ i)⟩
  rw [List.getElem?_map] at hd
  cases q : x.cps.toList[i]? with
  | none => rw [q] at hd; cases hd
  | some c =>
    rw [q] at hd
    cases hd
    have q' : x.cps[i]? = some c := by rw [← Array.getElem?_toList]; exact q
    refine ⟨(Array.getElem?_eq_some_iff.mp q').1, fun y H' z => ?_⟩
    obtain ⟨rfl, c', hc', rfl⟩ := z
    rw [q'] at hc'
    cases hc'
    exact ⟨Hs, .refl s2, .str _⟩
theorem wk_rng {lo hi : Int} {ds : List D} (h : rangeL lo hi = some ds) : (-(2 ^ 62) ≤ lo ∧ lo < 2 ^ 62 ∧ -(2 ^ 62) ≤ hi ∧ hi < 2 ^ 62) ∧ Wk K Hs0 (Itr lo (hi - lo).toNat) ds := by
  unfold rangeL at h
  split at h
  · rename_i q
    cases h
    refine ⟨q, fun Hs H s1 s2 i => ⟨fun d hd => ?_, fun hl => (by simp only [List.length_map, List.length_range] at hl; exact hl : (hi - lo).toNat ≤ i)⟩⟩
    rw [List.getElem?_map] at hd
    have hi : i < (hi - lo).toNat := by
      cases q : (List.range (hi - lo).toNat)[i]? with
      | none => rw [q] at hd; cases hd
      | some j => have := (List.getElem?_eq_some_iff.mp q).1; simpa using this
    rw [List.getElem?_range hi] at hd
    cases hd
    refine ⟨hi, fun y H' z => ?_⟩
    obtain ⟨rfl, rfl⟩ := z
    exact ⟨Hs, .refl s2, .int _⟩
  · cases h
theorem RpAll.pair {H : Hp} {x y : V} {a b : D} (h1 : Rp K H x a) (h2 : Rp K H y b) : RpAll K H [x, y] [a, b] := .cons h1 (.cons h2 .nil)
theorem wk_enum {a : Addr} {xs : List V} {ds : List D} (sq : SqL K Hs0 a xs) (r : RpAll K Hs0 xs ds) : Wk K Hs0 (Ite K a) (ds.zipIdx.map fun p => .tuple [.int p.2, p.1]) := fun Hs H s1 s2 i => by
  have q := sqL_mono s2 (sqL_mono s1 sq)
  refine ⟨fun d hd => ?_, fun hl => ⟨xs, q, by rw [r.length]; simpa using hl⟩⟩
  rw [List.getElem?_map, List.getElem?_zipIdx] at hd
  cases q2 : ds[i]? with
  | none => rw [q2] at hd; cases hd
  | some d0 =>
    rw [q2] at hd
    cases hd
    obtain ⟨v, hv, rv⟩ := r.get q2
    refine ⟨⟨xs, v, q, hv⟩, fun x H' y => ?_⟩
    obtain ⟨T, x0, rfl, n, rfl, y⟩ := y
    have := y xs q
    rw [hv] at this
    cases this
    have ex := Ext.laid (o := .tup [.int (i : Nat), v]) s2 n
    refine ⟨_, ex, .tup (.of upd_same) (.pair ?_ ((rv.up s1).up ex.hs))⟩
    simp only [Nat.zero_add]
    exact .int _
theorem wk_enumT {a : Addr} {xs : List V} {ds : List D} (sq : SqT K Hs0 a xs) (r : RpAll K Hs0 xs ds) : Wk K Hs0 (IteT K a) (ds.zipIdx.map fun p => .tuple [.int p.2, p.1]) := fun Hs H s1 s2 i => by
  have q := sqT_mono s2 (sqT_mono s1 sq)
  refine ⟨fun d hd => ?_, fun hl => ⟨xs, q, by rw [r.length]; simpa using hl⟩⟩
  rw [List.getElem?_map, List.getElem?_zipIdx] at hd
  cases q2 : ds[i]? with
  | none => rw [q2] at hd; cases hd
  | some d0 =>
    rw [q2] at hd
    cases hd
    obtain ⟨v, hv, rv⟩ := r.get q2
    refine ⟨⟨xs, v, q, hv⟩, fun x H' y => ?_⟩
    obtain ⟨T, x0, rfl, n, rfl, y⟩ := y
    have := y xs q
    rw [hv] at this
    cases this
    have ex := Ext.laid (o := .tup [.int (i : Nat), v]) s2 n
    refine ⟨_, ex, .tup (.of upd_same) (.pair ?_ ((rv.up s1).up ex.hs))⟩
    simp only [Nat.zero_add]
    exact .int _
theorem wk_zipL {a b : Addr} {xs ys : List V} {ds es : List D} (sq : SqL K Hs0 a xs) (r : RpAll K Hs0 xs ds) (sq' : SqL K Hs0 b ys) (r' : RpAll K Hs0 ys es) : Wk K Hs0 (Itz K a b) ((ds.zip es).map fun p => .tuple [p.1, p.2]) := fun Hs H s1 s2 i => by
  have q := sqL_mono s2 (sqL_mono s1 sq)
  have q' := sqL_mono s2 (sqL_mono s1 sq')
  refine ⟨fun d hd => ?_, fun hl => ⟨xs, ys, q, q', by rw [r.length, r'.length]; simp at hl; omega⟩⟩
  rw [List.getElem?_map] at hd
  cases q2 : (ds.zip es)[i]? with
  | none => rw [q2] at hd; cases hd
  | some d0 =>
    rw [q2] at hd
    cases hd
    obtain ⟨z1, z2⟩ := List.getElem?_zip_eq_some.mp q2
    obtain ⟨v, hv, rv⟩ := r.get z1
    obtain ⟨w, hw, rw'⟩ := r'.get z2
    refine ⟨⟨xs, ys, v, w, q, q', hv, hw⟩, fun x H' y => ?_⟩
    obtain ⟨T, x0, y0, rfl, n, rfl, y1, y2⟩ := y
    have := y1 xs q
    rw [hv] at this
    cases this
    have := y2 ys q'
    rw [hw] at this
    cases this
    have ex := Ext.laid (o := .tup [v, w]) s2 n
    exact ⟨_, ex, .tup (.of upd_same) (.pair ((rv.up s1).up ex.hs) ((rw'.up s1).up ex.hs))⟩
theorem wk_zipT {a b : Addr} {xs ys : List V} {ds es : List D} (sq : SqT K Hs0 a xs) (r : RpAll K Hs0 xs ds) (sq' : SqT K Hs0 b ys) (r' : RpAll K Hs0 ys es) : Wk K Hs0 (RZ.ItzT K a b) ((ds.zip es).map fun p => .tuple [p.1, p.2]) := fun Hs H s1 s2 i => by
  have q := sqT_mono s2 (sqT_mono s1 sq)
  have q' := sqT_mono s2 (sqT_mono s1 sq')
  refine ⟨fun d hd => ?_, fun hl => ⟨xs, ys, q, q', by rw [r.length, r'.length]; simp at hl; omega⟩⟩
  rw [List.getElem?_map] at hd
  cases q2 : (ds.zip es)[i]? with
  | none => rw [q2] at hd; cases hd
  | some d0 =>
    rw [q2] at hd
    cases hd
    obtain ⟨z1, z2⟩ := List.getElem?_zip_eq_some.mp q2
    obtain ⟨v, hv, rv⟩ := r.get z1
    obtain ⟨w, hw, rw'⟩ := r'.get z2
    refine ⟨⟨xs, ys, v, w, q, q', hv, hw⟩, fun x H' y => ?_⟩
    obtain ⟨T, x0, y0, rfl, n, rfl, y1, y2⟩ := y
    have := y1 xs q
    rw [hv] at this
    cases this
    have := y2 ys q'
    rw [hw] at this
    cases this
    have ex := Ext.laid (o := .tup [v, w]) s2 n
    exact ⟨_, ex, .tup (.of upd_same) (.pair ((rv.up s1).up ex.hs) ((rw'.up s1).up ex.hs))⟩
end
end Pv

/-! PvS9: what is walked, comprehensions. -/
namespace Pv
open PySem PySem.Spec PyProof.Rows L2
variable [TabC]

section
variable {X : Cx} {T : Tx} {W : WX} {tg : Expr}
theorem seqL_cases {K : PySem.W.Frag} {Hs : Hp} {v : V} {d : D} {ds : List D} (h : seqL d = some ds) (r : Rp K Hs v d) :
    (∃ a, v = .ref a ∧ (∃ xs, SqL K Hs a xs ∧ RpAll K Hs xs ds)) ∨ (∃ a, v = .ref a ∧ ∃ xs, SqT K Hs a xs ∧ RpAll K Hs xs ds) ∨ ∃ x : Str, v = .str x ∧ ds = x.cps.toList.map fun c => .str ⟨#[c]⟩ := by
  cases r with
  | lst q r => cases h; exact .inl ⟨_, rfl, _, q, r⟩
  | tup q r => cases h; exact .inr (.inl ⟨_, rfl, _, q, r⟩)
  | str x => cases h; exact .inr (.inr ⟨x, rfl, rfl⟩)
  | _ => cases h
def iSeqA (K : PySem.W.Frag) (te : TE) : TI := fun σ H R => te σ H fun v H1 => (∃ a, v = .ref a ∧ (∃ xs, SqL K H1 a xs) ∧ R (Itl K a) H1) ∨ (∃ a, v = .ref a ∧ (∃ xs, SqT K H1 a xs) ∧ R (Itt K a) H1) ∨ ∃ x, v = .str x ∧ R (Its x) H1
theorem pi_seqA {l : Expr} {tl : TE} (hl : PE X l tl) : PI X tg l (iSeqA X.K tl) := by
  refine ⟨fun pins s σ H R I h => ?_⟩
  refine thn (hl.run pins s σ H _ I h) fun v s1 ⟨x, H1, I1, r1, q1⟩ => ?_
  rcases q1 with ⟨a, e, ⟨xs, hq⟩, q⟩ | ⟨a, e, ⟨xs, hq⟩, q⟩ | ⟨y, e, q⟩
  · subst e
    cases r1
    obtain ⟨its, rv, p, hz⟩ := I1.list hq
    exact wpAny_pyIter_list p.isList (pi_one (tk := s1.toks) I1 _ (turn_list a _) ⟨_, Heap.get?_push_size _ rfl, rfl, rfl⟩ q)
  · subst e
    cases r1
    obtain ⟨its, rv, p, hz⟩ := I1.tuple hq
    exact wpAny_pyIter_tuple (show s1.heap.IsTuple a its.toArray from p) (pi_one (tk := s1.toks) I1 _ (turn_tuple a _) ⟨_, Heap.get?_push_size _ rfl, rfl, rfl⟩ q)
  · subst e
    obtain ⟨t, rfl⟩ := r1
    cases ha : y.cps.all (· < 128)
    · exact wpAny_pyIter_wide ha (pi_one (tk := s1.toks) I1 _ (turn_str _ y t "str_iterator" (.inr rfl)) ⟨_, Heap.get?_push_size _ rfl, rfl, rfl⟩ q)
    · exact wpAny_pyIter_ascii ha (pi_one (tk := s1.toks) I1 _ (turn_str _ y t "str_ascii_iterator" (.inl rfl)) ⟨_, Heap.get?_push_size _ rfl, rfl, rfl⟩ q)
theorem pv_iseq {e : Expr} {m : M AV} (h : PE X e (tA T X.K W m)) : PI X tg e (tI T X.K W (do let x ← m; let d ← valM x; ofO (seqL d))) :=
  (pi_seqA h).mono fun σ H Q q => by
    obtain ⟨Hs, e, A, R, g⟩ := q
    refine at_bind R g fun v a e1 Hs1 H1 A1 s1 R1 r1 P1 => ?_
    obtain ⟨d, rfl, P1⟩ := valM_inv (Pst.bind P1)
    obtain ⟨ds, hd, P1⟩ := ofO_inv P1
    rcases seqL_cases hd r1 with ⟨a, rfl, xs, sq, r⟩ | ⟨a, rfl, xs, sq, r⟩ | ⟨x, rfl, rfl⟩
    · exact .inl ⟨a, rfl, ⟨xs, sqL_mono R1.sub sq⟩, P1 _ H1 Hs1 A1 s1 R1 (wk_list sq r)⟩
    · exact .inr (.inl ⟨a, rfl, ⟨xs, sqT_mono R1.sub sq⟩, P1 _ H1 Hs1 A1 s1 R1 (wk_tup sq r)⟩)
    · exact .inr (.inr ⟨x, rfl, P1 _ H1 Hs1 A1 s1 R1 (wk_str x)⟩)
/-- one argument alone -/
theorem pa_one' {e : Expr} {m : M AV} (h : PE X e (tA T X.K W m)) (hs : starEach (e :: []) X.env = (false, eval e X.env) :: starEach [] X.env) : PA X [e] fun σ H Q => tA T X.K W m σ H fun v H' => Q [v] H' := by
  refine (pa_cons h pa_nil hs).mono fun σ H Q q => ?_
  exact tM_imp q fun v H1 q => q
theorem pa_two' {e e2 : Expr} {m m2 : M AV} (h : PE X e (tA T X.K W m)) (h2 : PE X e2 (tA T X.K W m2)) (hs : starEach (e :: [e2]) X.env = (false, eval e X.env) :: starEach [e2] X.env) (hs2 : starEach (e2 :: []) X.env = (false, eval e2 X.env) :: starEach [] X.env) :
    PA X [e, e2] fun σ H Q => tA T X.K W m σ H fun v H1 => tA T X.K W m2 σ H1 fun w H2 => Q [v, w] H2 := by
  refine (pa_cons h (pa_one' h2 hs2) hs).mono fun σ H Q q => ?_
  exact tM_imp q fun v H1 q => q
theorem rng1_inv {d : D} {ds : List D} (h : (match d with | .int j => rangeL 0 j | _ => none) = some ds) : ∃ j, d = .int j ∧ rangeL 0 j = some ds := by
  cases d with
  | int j => exact ⟨j, rfl, h⟩
  | _ => cases h
theorem rng2_inv {d d' : D} {ds : List D} (h : (match d, d' with | .int i, .int j => rangeL i j | _, _ => none) = some ds) : ∃ i j, d = .int i ∧ d' = .int j ∧ rangeL i j = some ds := by
  cases d with
  | int i =>
    cases d' with
    | int j => exact ⟨i, j, rfl, rfl, h⟩
    | _ => cases h
  | _ => cases d' <;> cases h
theorem pv_rng1 {a : Expr} {m : M AV} {p pos : Pos} (hg : Gl X "range") (hm : X.mg "range" = none) (ha : PE X a (tA T X.K W m)) (hs : starEach (a :: []) X.env = (false, eval a X.env) :: starEach [] X.env) :
    PI X tg (.Call (.Name "range" p) [a] [] pos) (tI T X.K W (do let x ← m; let d ← valM x; ofO (match d with | .int j => rangeL 0 j | _ => none))) :=
  (pi_range1 hg hm (pa_one' ha hs) hs).mono fun σ H Q q => by
    obtain ⟨Hs, e, A, R, g⟩ := q
    refine at_bind R g fun v a e1 Hs1 H1 A1 s1 R1 r1 P1 => ?_
    obtain ⟨d, rfl, P1a⟩ := valM_inv (Pst.bind P1)
    obtain ⟨ds, hd, P1b⟩ := ofO_inv P1a
    obtain ⟨j, ej, hd⟩ := rng1_inv hd
    subst ej
    obtain ⟨⟨_, _, b1, b2⟩, wk⟩ := wk_rng (K := X.K) (Hs0 := Hs1) hd
    rw [Rp.int_inv r1]
    exact ⟨j, rfl, b1, b2, P1b _ H1 Hs1 A1 s1 R1 (by simpa using wk)⟩
theorem pv_rng2 {a b : Expr} {m m2 : M AV} {p pos : Pos} (hg : Gl X "range") (hm : X.mg "range" = none) (ha : PE X a (tA T X.K W m)) (hb : PE X b (tA T X.K W m2)) (hs : starEach (a :: [b]) X.env = (false, eval a X.env) :: starEach [b] X.env)
    (hs2 : starEach (b :: []) X.env = (false, eval b X.env) :: starEach [] X.env) :
    PI X tg (.Call (.Name "range" p) [a, b] [] pos) (tI T X.K W (do let x ← m; let d ← valM x; let y ← m2; let d' ← valM y; ofO (match d, d' with | .int i, .int j => rangeL i j | _, _ => none))) :=
  (pi_range2 hg hm (pa_two' ha hb hs hs2) (by rw [hs, hs2]; rfl) (by rw [hs2]; rfl)).mono fun σ H Q q => by
    obtain ⟨Hs, e, A, R, g⟩ := q
    refine at_bind R g fun v a e1 Hs1 H1 A1 s1 R1 r1 P1 => ?_
    obtain ⟨d, rfl, P1⟩ := valM_inv (Pst.bind P1)
    refine at_bind R1 P1 fun w b e2 Hs2 H2 A2 s2 R2 r2 P2 => ?_
    obtain ⟨d', rfl, P2a⟩ := valM_inv (Pst.bind P2)
    obtain ⟨ds, hd, P2b⟩ := ofO_inv P2a
    obtain ⟨i, j, ei, ej, hd⟩ := rng2_inv hd
    subst ei ej
    obtain ⟨bd, wk⟩ := wk_rng (K := X.K) (Hs0 := Hs2) hd
    rw [Rp.int_inv r1, Rp.int_inv r2]
    exact ⟨i, j, rfl, bd, P2b _ H2 Hs2 A2 (s1.trans s2) R2 wk⟩
theorem pv_enum {e : Expr} {m : M AV} {p pos tpos : Pos} {elts : List Expr} {kk : Nat} (hg : Gl X "enumerate") (hm : X.mg "enumerate" = none) (ha : PE X e (tA T X.K W m)) (hs : starEach (e :: []) X.env = (false, eval e X.env) :: starEach [] X.env) :
    PI X (.Tuple elts kk tpos) (.Call (.Name "enumerate" p) [e] [] pos) (tI T X.K W (do let x ← m; let d ← valM x; ofO (enumL d))) :=
  (pi_enumA hg hm (pa_one' ha hs) hs).mono fun σ H Q q => by
    obtain ⟨Hs, e, A, R, g⟩ := q
    refine at_bind R g fun v a e1 Hs1 H1 A1 s1 R1 r1 P1 => ?_
    obtain ⟨d, rfl, P1⟩ := valM_inv (Pst.bind P1)
    obtain ⟨ds, hd, P1⟩ := ofO_inv P1
    cases r1 with
    | lst sq r => cases hd; exact ⟨_, _, rfl, .inl ⟨sqL_mono R1.sub sq, P1 _ H1 Hs1 A1 s1 R1 (wk_enum sq r)⟩⟩
    | tup sq r => cases hd; exact ⟨_, _, rfl, .inr ⟨sqT_mono R1.sub sq, P1 _ H1 Hs1 A1 s1 R1 (wk_enumT sq r)⟩⟩
    | _ => cases hd
theorem pv_rev {e : Expr} {m : M AV} {p pos : Pos} (hg : Gl X "reversed") (hm : X.mg "reversed" = none) (ha : PE X e (tA T X.K W m)) (hs : starEach (e :: []) X.env = (false, eval e X.env) :: starEach [] X.env) :
    PI X tg (.Call (.Name "reversed" p) [e] [] pos) (tI T X.K W (do let x ← m; let d ← valM x; ofO (revL d))) :=
  (RT.pi_revA hg hm ha hs).mono fun σ H Q q => by
    obtain ⟨Hs, e, A, R, g⟩ := q
    refine at_bind R g fun v a e1 Hs1 H1 A1 s1 R1 r1 P1 => ?_
    obtain ⟨d, rfl, P1⟩ := valM_inv (Pst.bind P1)
    obtain ⟨ds, hd, P1⟩ := ofO_inv P1
    cases r1 with
    | lst sq r => cases hd; exact ⟨_, _, rfl, .inl ⟨sqL_mono R1.sub sq, P1 _ H1 Hs1 A1 s1 R1 (wk_rev sq r)⟩⟩
    | tup sq r => cases hd; exact ⟨_, _, rfl, .inr ⟨sqT_mono R1.sub sq, P1 _ H1 Hs1 A1 s1 R1 (wk_revT sq r)⟩⟩
    | _ => cases hd
theorem pv_zip2 {a b : Expr} {m m2 : M AV} {p pos tpos : Pos} {elts : List Expr} {kk : Nat} (hg : Gl X "zip") (hm : X.mg "zip" = none) (ha : PE X a (tA T X.K W m)) (hb : PE X b (tA T X.K W m2)) (hs : starEach (a :: [b]) X.env = (false, eval a X.env) :: starEach [b] X.env)
    (hs2 : starEach (b :: []) X.env = (false, eval b X.env) :: starEach [] X.env) (hpl : (backTo pos (starEach [b] X.env)).any (·.1) = false) :
    PI X (.Tuple elts kk tpos) (.Call (.Name "zip" p) [a, b] [] pos) (tI T X.K W (do let x ← m; let d ← valM x; let y ← m2; let d' ← valM y; ofO (zipK d d'))) :=
  (RZ.pi_zipA hg hm (pa_two' ha hb hs hs2) hs hpl).mono fun σ H Q q => by
    obtain ⟨Hs, e, A, R, g⟩ := q
    refine at_bind R g fun v a e1 Hs1 H1 A1 s1 R1 r1 P1 => ?_
    obtain ⟨d, rfl, P1⟩ := valM_inv (Pst.bind P1)
    refine at_bind R1 P1 fun w b e2 Hs2 H2 A2 s2 R2 r2 P2 => ?_
    obtain ⟨d', rfl, P2⟩ := valM_inv (Pst.bind P2)
    obtain ⟨ds, hd, P2⟩ := ofO_inv P2
    unfold zipK at hd
    have r1 : Rp X.K Hs2 v d := Rp.up s2.hs r1
    split at hd
    · cases r1 with
      | lst q1 r1 =>
        have r2 : Rp X.K Hs2 w _ := r2
        cases r2 with
        | lst q2 r2 => cases hd; exact ⟨_, _, _, _, rfl, .inl ⟨sqL_mono R2.sub q1, sqL_mono R2.sub q2, P2 _ H2 Hs2 A2 (s1.trans s2) R2 (wk_zipL q1 r1 q2 r2)⟩⟩
    · cases r1 with
      | tup q1 r1 =>
        have r2 : Rp X.K Hs2 w _ := r2
        cases r2 with
        | tup q2 r2 => cases hd; exact ⟨_, _, _, _, rfl, .inr ⟨sqT_mono R2.sub q1, sqT_mono R2.sub q2, P2 _ H2 Hs2 A2 (s1.trans s2) R2 (wk_zipT q1 r1 q2 r2)⟩⟩
    · cases hd
end

/-! ### comprehensions -/
section
variable {K : PySem.W.Frag} {σ : L2.St} {Hs H : Hp} {e : En} {A : Nat → List Addr}
def noAs (A : Nat → List Addr) : List Nat → Nat → List Addr
  | [] => A
  | v :: vs => noA (noAs A vs) v
theorem noAs_stp : ∀ {vs : List Nat}, Stp A Hs H (noAs A vs) Hs H
  | [] => .refl
  | _ :: vs => (noAs_stp (vs := vs)).trans noA_stp
theorem noAs_mem : ∀ {vs : List Nat} {j : Nat} {a : Addr}, a ∈ noAs A vs j → a ∈ A j ∧ j ∉ vs
  | [], _, _, h => ⟨h, by simp⟩
  | v :: vs, j, a, h => by
    obtain ⟨h1, h2⟩ := noA_mem h
    obtain ⟨h3, h4⟩ := noAs_mem h1
    exact ⟨h3, by simp only [List.mem_cons, not_or]; exact ⟨h2, h4⟩⟩
theorem Rel.wipe (R : Rel K σ Hs H e A) : ∀ vs : List Nat, Rel K (L2.wipe σ vs) Hs H (Pv.wipe vs e) (noAs A vs)
  | [] => R
  | v :: vs => (R.wipe vs).set_no v none
theorem wipe_get (σ : L2.St) : ∀ (vs : List Nat) (i : Nat), (L2.wipe σ vs)[i]? = if i ∈ vs then σ[i]?.map (fun _ => none) else σ[i]?
  | [], i => by simp [L2.wipe]
  | v :: vs, i => by
    show ((L2.wipe σ vs).set v none)[i]? = _
    by_cases h : v = i
    · subst h
      simp only [List.mem_cons, true_or, if_true]
      by_cases hl : v < σ.length
      · rw [List.getElem?_set_self (by rw [wipe_length]; exact hl), List.getElem?_eq_getElem hl]; rfl
      · rw [List.getElem?_eq_none (by simp [wipe_length]; omega), List.getElem?_eq_none (by omega)]; rfl
    · rw [List.getElem?_set_ne h, wipe_get σ vs i]
      have : (i ∈ v :: vs) = (i ∈ vs) := by simp [Ne.symm h]
      simp only [this]
theorem Kp.wipe {vs : List Nat} {σ1 σ2 : L2.St} (k : Kp (fun i => i ∉ vs) σ1 σ2) : L2.wipe σ2 vs = L2.wipe σ1 vs := by
  apply List.ext_getElem?
  intro i
  rw [wipe_get, wipe_get]
  split
  · have hl := k.1
    by_cases h : i < σ1.length
    · rw [List.getElem?_eq_getElem h, List.getElem?_eq_getElem (by omega)]; rfl
    · rw [List.getElem?_eq_none (by omega), List.getElem?_eq_none (by omega)]
  · exact k.2 i (by assumption)
theorem wipe_wipe (σ : L2.St) (vs : List Nat) : L2.wipe (L2.wipe σ vs) vs = L2.wipe σ vs := by
  apply List.ext_getElem?
  intro i
  rw [wipe_get, wipe_get]
  split
  · cases σ[i]? <;> rfl
  · rfl
theorem putBack_len (old e : En) : ∀ vs : List Nat, (putBack vs old e).length = e.length
  | [] => rfl
  | v :: vs => by show ((putBack vs old e).set v _).length = _; rw [List.length_set, putBack_len old e vs]
theorem putBack_get (old e : En) : ∀ (vs : List Nat) (i : Nat) (s : Sl), (putBack vs old e)[i]? = some s → (i ∈ vs ∧ s = shOf old[i]?) ∨ (i ∉ vs ∧ e[i]? = some s)
  | [], i, s, h => .inr ⟨by simp, h⟩
  | v :: vs, i, s, h => by
    have h : ((putBack vs old e).set v (shOf old[v]?))[i]? = some s := h
    by_cases q : v = i
    · subst q
      have hl : v < (putBack vs old e).length := by
        have := (List.getElem?_eq_some_iff.mp h).1
        simpa using this
      rw [List.getElem?_set_self hl] at h
      exact .inl ⟨by simp, (Option.some.inj h).symm⟩
    · rw [List.getElem?_set_ne q] at h
      rcases putBack_get old e vs i s h with ⟨a, b⟩ | ⟨a, b⟩
      · exact .inl ⟨by simp [a], b⟩
      · exact .inr ⟨by simp only [List.mem_cons, not_or]; exact ⟨Ne.symm q, a⟩, b⟩
theorem shOf_sh {o : Option Sl} {d : D} (h : Sl.sh d = shOf o) : o = some (.sh d) := by
  unfold shOf at h
  split at h
  · cases h; rfl
  · cases h
theorem shOf_ow {o : Option Sl} {m : Nat} {d : D} : Sl.ow m d ≠ shOf o := by
  unfold shOf
  split <;> exact fun h => nomatch h
/-- the block's names are put back -/
theorem Rel.putBack {Hs' H' : Hp} {e' : En} {A' : Nat → List Addr} {vs : List Nat} (R : Rel K σ Hs H e A) (R' : Rel K (L2.wipe σ vs) Hs' H' e' A') (s : Same Hs Hs') : Rel K σ Hs' H' (Pv.putBack vs e e') (noAs A' vs) where
  len := by rw [putBack_len, ← R'.len, wipe_length]
  sub := R'.sub
  sh := fun i d h => by
    rcases putBack_get _ _ _ _ _ h with ⟨a, b⟩ | ⟨a, b⟩
    · obtain ⟨v, h1, h2⟩ := R.sh i d (shOf_sh b)
      exact ⟨v, h1, h2.up s⟩
    · obtain ⟨v, h1, h2⟩ := R'.sh i d b
      exact ⟨v, (wipe_some h1).1, h2⟩
  ow := fun i m d h => by
    rcases putBack_get _ _ _ _ _ h with ⟨a, b⟩ | ⟨a, b⟩
    · exact absurd b shOf_ow
    · obtain ⟨v, h1, h2⟩ := R'.ow i m d b
      refine ⟨v, (wipe_some h1).1, ?_⟩
      have : noAs A' vs i = A' i := by
        clear h b h1 h2
        induction vs with
        | nil => rfl
        | cons w ws ih =>
          simp only [List.mem_cons, not_or] at a
          show noA (noAs A' ws) w i = _
          unfold noA
          rw [if_neg a.1]
          have : ∀ (R'' : True), noAs A' ws i = A' i := fun _ => by
            clear ih R R'
            have a2 := a.2
            clear a
            induction ws with
            | nil => rfl
            | cons u us ih2 =>
              simp only [List.mem_cons, not_or] at a2
              show noA (noAs A' us) u i = _
              unfold noA
              rw [if_neg a2.1]
              exact ih2 a2.2
          exact this trivial
      rw [this]; exact h2
  nd := fun j => by
    induction vs generalizing j with
    | nil => exact R'.nd j
    | cons v vs ih =>
      clear ih
      have : ∀ vs : List Nat, (noAs A' vs j).Nodup := fun vs => by
        induction vs with
        | nil => exact R'.nd j
        | cons v vs ih =>
          show (noA (noAs A' vs) v j).Nodup
          unfold noA
          split
          · exact List.nodup_nil
          · exact ih
      exact this _
  dj := fun j j' a h h' => R'.dj j j' a (noAs_mem h).1 (noAs_mem h').1
  fr := fun j a h => R'.fr j a (noAs_mem h).1
  em := fun j h => by
    cases q : noAs A' vs j with
    | nil => rfl
    | cons a l =>
      exfalso
      have hm : a ∈ noAs A' vs j := by rw [q]; simp
      obtain ⟨h1, h2⟩ := noAs_mem hm
      have : A' j ≠ [] := fun z => by rw [z] at h1; cases h1
      refine this (R'.em j fun m d z => h m d ?_)
      have hl : j < (Pv.putBack vs e e').length := by rw [putBack_len]; exact (List.getElem?_eq_some_iff.mp z).1
      have g := List.getElem?_eq_getElem hl
      rcases putBack_get _ _ _ _ _ g with ⟨a, b⟩ | ⟨a, b⟩
      · exact absurd a h2
      · rw [g, ← b, z]
  tb := R'.tb
  nt := R'.nt

/-- the block's turns -/
theorem comp_turnsG {T : Tx} {vs : List Nat} {tg : Tg} {conds : M Bool} {el : M AV} {items : List D} {σ : L2.St} {Dl : Addr} {Q : VK} {J : L2.It} {g0 : List D → En → Prop} {A0 : Nat → List Addr} {Hs0 H0 Hs1 : Hp}
    (wk : ∀ Hs H A, Same Hs1 Hs → Same Hs H → Stp A0 Hs0 H0 A Hs H → ∀ i : Nat, (∀ d, items[i]? = some d → J.go i H ∧ ∀ x H', J.yld i H x H' → ∃ Hs', Ext Hs H Hs' H' ∧ Rp K Hs' x d) ∧ (items.length ≤ i → J.stop i H)) (hl : items.length ≤ sizeLine) (hD0 : H0 Dl = none)
    (hd : ∀ ds e' (acc : List V) Hs' H' A', g0 ds e' → Stp A0 Hs0 H0 A' Hs' H' → Rel K (L2.wipe σ vs) Hs' H' e' A' → H' Dl = some (.lst acc) → RpAll K Hs' acc ds → (∀ j, Dl ∉ A' j) → Hs' Dl = none → Q (.ref Dl) H') :
    ∃ I : Nat → Nat → Hp → Prop, (∀ i H, (∃ Hs e A acc ds, Same Hs1 Hs ∧ Rel K (L2.wipe σ vs) Hs H e A ∧ Stp A0 Hs0 H0 A Hs H ∧ H Dl = some (.lst acc) ∧ RpAll K Hs acc ds ∧ (∀ j, Dl ∉ A j) ∧ Hs Dl = none ∧ ds.length ≤ i ∧ i ≤ items.length ∧
        ∃ rest e', compL vs (fun x => do
          bindT tg x
          let b ← conds
          if b then (do let y ← el; let d ← valM y; M.ret (some d)) else M.ret none) (items.drop i) e = .ok rest e' ∧ g0 (ds ++ rest) e') → I i (items.length - i) H) ∧ ∀ i m H, I i m H →
      (J.stop i H ∧ Q (.ref Dl) H) ∨ (J.go i H ∧ ∃ Nx : Hp → Prop, (∀ H', Nx H' → ∃ m', m' < m ∧ I (i + 1) m' H') ∧ ∀ x H', J.yld i H x H' →
        tG T K (fun _ _ _ _ => False) (fun i => i ∉ vs) (bindT tg) x (L2.wipe σ vs) H' fun σ2 H2 => L2.wipe σ2 vs = L2.wipe σ vs ∧ tT T K (fun _ _ _ _ => False) conds σ2 H2 fun b H3 =>
          if b = true then tA T K (fun _ _ _ _ => False) el σ2 H3 fun y H4 => ∃ acc, H4 Dl = some (.lst acc) ∧ acc.length < sizeLine ∧ Nx (upd H4 Dl (.lst (acc ++ [y]))) else Nx H3) := by
  generalize hbody : (fun x => (do
          bindT tg x
          let b ← conds
          if b then (do let y ← el; let d ← valM y; M.ret (some d)) else M.ret none : M (Option D))) = body
  let G : Nat → Hp → Prop := fun i H => ∃ Hs e A acc ds, Same Hs1 Hs ∧ Rel K (L2.wipe σ vs) Hs H e A ∧ Stp A0 Hs0 H0 A Hs H ∧ H Dl = some (.lst acc) ∧ RpAll K Hs acc ds ∧ (∀ j, Dl ∉ A j) ∧ Hs Dl = none ∧ ds.length ≤ i ∧ i ≤ items.length ∧
        ∃ rest e', compL vs body (items.drop i) e = .ok rest e' ∧ g0 (ds ++ rest) e'
  refine ⟨fun i m H => m = items.length - i ∧ G i H, fun i H h => ⟨rfl, h⟩, ?_⟩
  rintro i m H ⟨rfl, Hs, e, A, acc, ds, s1, R, st, hD, ra, dA, dH, hi, hin, rest, e', hc, hg⟩
  cases q : items[i]? with
  | none =>
    have hge : items.length ≤ i := List.getElem?_eq_none_iff.mp q
    refine .inl ⟨(wk Hs H A s1 R.sub st i).2 hge, ?_⟩
    rw [List.drop_eq_nil_of_le hge] at hc
    cases hc
    rw [List.append_nil] at hg
    exact hd ds _ acc Hs H A hg st R hD ra dA dH
  | some d =>
    have hlt : i < items.length := (List.getElem?_eq_some_iff.mp q).1
    obtain ⟨go, yl⟩ := (wk Hs H A s1 R.sub st i).1 d q
    refine .inr ⟨go, G (i + 1), fun H' g => ⟨_, by omega, rfl, g⟩, fun x H' y => ?_⟩
    obtain ⟨Hs', ex, rx⟩ := yl x H' y
    have hdrop : items.drop i = d :: items.drop (i + 1) := by
      rw [List.drop_eq_getElem_cons hlt]
      have : items[i] = d := (List.getElem?_eq_some_iff.mp q).2
      rw [this]
    rw [hdrop] at hc
    unfold compL at hc
    -- the turn's own run
    have key : ∃ o e1, body d e = .ok o e1 ∧ ∃ ds2 e2, compL vs body (items.drop (i + 1)) (Pv.wipe vs e1) = .ok ds2 e2 ∧ rest = o.toList ++ ds2 ∧ e' = e2 := by
      cases qb : body d e with
      | ok o e1 =>
        rw [qb] at hc
        simp only at hc
        cases qc : compL vs body (items.drop (i + 1)) (Pv.wipe vs e1) with
        | ok ds2 e2 =>
          rw [qc] at hc
          simp only at hc
          cases hc
          exact ⟨o, e1, rfl, ds2, _, qc, rfl, rfl⟩
        | ex _ _ => rw [qc] at hc; cases hc
        | bad => rw [qc] at hc; cases hc
      | ex _ _ => rw [qb] at hc; cases hc
      | bad => rw [qb] at hc; cases hc
    obtain ⟨o, e1, qb, ds2, e2, qc, hr, he⟩ := key
    subst hr he
    have R1 := R.ext ex
    have sx : Stp A Hs H A Hs' H' := ex.stp
    -- a step leaves the new list as it is
    have stay : ∀ {A2 : Nat → List Addr} {Hs2 H2 : Hp}, Stp A Hs H A2 Hs2 H2 → H2 Dl = some (.lst acc) ∧ (∀ j, Dl ∉ A2 j) ∧ Hs2 Dl = none := fun {A2 Hs2 H2} s => by
      refine ⟨s.fr _ _ hD dA (isTab.noc R.tb hD trivial), fun j hj => ?_, ?_⟩
      · rcases s.new j _ hj with ⟨k, hk⟩ | z
        · exact dA k hk
        · rw [hD] at z; cases z
      · cases z : Hs2 Dl with
        | none => rfl
        | some u =>
          rcases s.shn Dl (by rw [z]; simp) with w | ⟨k, hk⟩ | w
          · exact absurd dH w
          · exact absurd hk (dA k)
          · rw [hD] at w; cases w
    -- behind the turn, nothing put
    have fin0 : ∀ {σ2 : L2.St} {A2 : Nat → List Addr} {Hs2 H2 : Hp}, L2.wipe σ2 vs = L2.wipe σ vs → Stp A Hs H A2 Hs2 H2 → Rel K σ2 Hs2 H2 e1 A2 → o = none → G (i + 1) H2 := fun {σ2 A2 Hs2 H2} hw s R2 ho => by
      obtain ⟨z1, z2, z3⟩ := stay s
      subst ho
      have R3 := R2.wipe vs
      rw [hw] at R3
      exact ⟨Hs2, _, noAs A2 vs, acc, ds, s1.trans s.hs, R3, (st.trans s).trans noAs_stp, z1, ra.up s.hs, fun j hj => z2 j (noAs_mem hj).1, z3, by omega, hlt, ds2, e', qc, by simpa using hg⟩
    have fin1 : ∀ {σ2 : L2.St} {A2 : Nat → List Addr} {Hs2 H2 : Hp} {y : V} {dy : D}, L2.wipe σ2 vs = L2.wipe σ vs → Stp A Hs H A2 Hs2 H2 → Rel K σ2 Hs2 H2 e1 A2 → o = some dy → Rp K Hs2 y dy → ∃ acc, H2 Dl = some (.lst acc) ∧ acc.length < sizeLine ∧ G (i + 1) (upd H2 Dl (.lst (acc ++ [y]))) := fun {σ2 A2 Hs2 H2 y dy} hw s R2 ho ry => by
      obtain ⟨z1, z2, z3⟩ := stay s
      subst ho
      have R3 := R2.wipe vs
      rw [hw] at R3
      refine ⟨acc, z1, by rw [ra.length]; omega, Hs2, _, noAs A2 vs, acc ++ [y], ds ++ [dy], s1.trans s.hs, ?_, ?_, upd_same, (ra.up s.hs).append (.cons ry .nil), fun j hj => z2 j (noAs_mem hj).1, z3, by simp; omega, hlt, ds2, e', qc, by simpa using hg⟩
      · exact ⟨R3.len, fun b u h => by rw [upd_ne (ne_of_none h z3)]; exact R3.sub b u h, R3.sh, fun j m d h => by
          obtain ⟨v, a, b⟩ := R3.ow j m d h
          exact ⟨v, a, Own.mono (Same.refl _) m (fun c hc u hu => by rw [upd_ne (fun z : c = Dl => z2 j (by rw [← z]; exact (noAs_mem hc).1))]; exact hu) b⟩, R3.nd, R3.dj, R3.fr, R3.em, tabs_upd R3.tb z1 trivial, R3.nt⟩
      · have s' := (st.trans s).trans (noAs_stp (vs := vs))
        refine ⟨s'.hs, fun a u h n t => ?_, s'.new, s'.shn, fun a t h => ?_⟩
        · by_cases ha : a = Dl
          · subst ha
            rw [hD0] at h; cases h
          · rw [upd_ne ha]; exact s'.fr a u h n t
        · by_cases ha : a = Dl
          · subst ha
            rw [upd_same]; simp
          · rw [upd_ne ha]; exact s'.tb a t h
    subst hbody
    have qb : (bindT tg d e).bind (fun _ => (do
          let b ← conds
          if b then (do let y ← el; let d ← valM y; M.ret (some d)) else M.ret none : M (Option D))) = .ok o e1 := qb
    refine ⟨Hs', e, A, d, R1, rx, ?_⟩
    cases q1 : bindT tg d e with
    | ex _ _ => rw [q1] at qb; cases qb
    | bad => rw [q1] at qb; cases qb
    | ok u ea =>
      rw [q1] at qb
      have qb : (conds ea).bind (fun b => if b then (do let y ← el; let d ← valM y; M.ret (some d) : M (Option D)) else M.ret none) = .ok o e1 := qb
      intro σ2 H2 Hs2 A2 st2 R2 k2
      have hw : L2.wipe σ2 vs = L2.wipe σ vs := by rw [k2.wipe, wipe_wipe]
      refine ⟨hw, Hs2, ea, A2, R2, ?_⟩
      cases q2 : conds ea with
      | ex _ _ => rw [q2] at qb; cases qb
      | bad => rw [q2] at qb; cases qb
      | ok b eb =>
        rw [q2] at qb
        intro b' H3 Hs3 A3 st3 R3 hb
        have hb : b' = b := hb
        rw [hb]
        cases b with
        | false =>
          rw [if_neg Bool.false_ne_true]
          have qb : Pv.R.ok none eb = Pv.R.ok o e1 := qb
          cases qb
          exact fin0 hw ((sx.trans st2).trans st3) R3 rfl
        | true =>
          rw [if_pos rfl]
          have qb : (el eb).bind (fun y => (do let d ← valM y; M.ret (some d) : M (Option D))) = .ok o e1 := qb
          refine ⟨Hs3, eb, A3, R3, ?_⟩
          cases q3 : el eb with
          | ex _ _ => rw [q3] at qb; cases qb
          | bad => rw [q3] at qb; cases qb
          | ok y ec =>
            rw [q3] at qb
            intro v H4 Hs4 A4 st4 R4 ry
            cases y with
            | own j => cases qb
            | val dy =>
              have qb : Pv.R.ok (some dy) ec = Pv.R.ok o e1 := qb
              cases qb
              exact fin1 hw (((sx.trans st2).trans st3).trans st4) R4 rfl ry

variable {T : Txt} {P : Pr} {k : Nat} {N : List Str} {sc : Scope} {W : WX} {X : Cx}
abbrev W0 : WX := fun _ _ _ _ => False
/-- the list that a comprehension makes: new, one's own -/
theorem comp_lc {mi : M (List D)} {tg : Tg} {conds : M Bool} {el : M AV} {vs : List Nat} {Q : VK}
    (h : tW T.tx K W (do let items ← mi; let d ← compM vs items tg conds el; M.ret (1, d)) σ H Q) :
    tLc (tI T.tx K W mi) (tG T.tx K W0 (fun i => i ∉ vs) (bindT tg)) (tT T.tx K W0 conds) (tA T.tx K W0 el) vs σ H Q := by
  obtain ⟨Hs, e, A, R, g⟩ := h
  show tI T.tx K W mi σ H _
  refine at_bind R g fun J items e1 Hs1 H1 A1 s1 R1 wk P1 => ?_
  intro Dl hD
  have P2 := Pst.bind P1
  unfold compM at P2
  split at P2
  · exact P2.elim
  rename_i hlen
  have hlen : items.length ≤ sizeLine := by
    have : ¬ sline < items.length := hlen
    have := Nat.le_of_not_lt this
    exact sline_eq ▸ this
  split at P2
  · rename_i ds0 e0 hc
    obtain ⟨I, hI, turn⟩ := comp_turnsG (T := T.tx) (K := K) (vs := vs) (tg := tg) (conds := conds) (el := el) (σ := σ) (Dl := Dl) (Q := Q) (A0 := A1) (Hs0 := Hs1) (H0 := H1) (g0 := fun ds e' => ds = ds0 ∧ e' = e0) (fun Hs H A a b _ => wk Hs H a b) hlen hD
      (fun ds e' acc Hs' H' A' hg st R' hDl ra dA dH => by
        obtain ⟨rfl, rfl⟩ := hg
        have Rb := R1.putBack R' st.hs
        refine P2 (.ref Dl) H' Hs' _ [Dl] (s1.trans (st.trans noAs_stp)) Rb (own1 hDl ra) ⟨by simp, fun a ha => ?_, fun i a ha hi => ?_, fun a ha => ?_⟩
        · rw [List.mem_singleton.mp ha]; exact dH
        · rw [List.mem_singleton.mp ha] at hi; exact dA i (noAs_mem hi).1
        · rw [List.mem_singleton.mp ha]; exact s1.was hD)
    refine ⟨I, ⟨_, hI 0 _ ?_⟩, turn⟩
    have xo := Ext.laidO (o := .lst []) R1.sub hD
    have R2 := (R1.wipe vs).ext xo
    refine ⟨Hs1, _, noAs A1 vs, [], [], Same.refl _, R2, noAs_stp.trans xo.stp, upd_same, .nil, fun j hj => ?_, ?_, Nat.le_refl _, Nat.zero_le _, ds0, e0, ?_, rfl, rfl⟩
    · obtain ⟨o, ho, _⟩ := R1.own_some (noAs_mem hj).1
      rw [hD] at ho; cases ho
    · cases z : Hs1 Dl with
      | none => rfl
      | some u => have := R1.sub _ _ z; rw [hD] at this; cases this
    · exact hc
  · exact P2.elim
end
end Pv

/-! PvS10: statements. -/
namespace Pv
open PySem PySem.Spec PyProof.Rows L2
variable [TabC]

/-- where a statement's flow goes -/
def endS (K : PySem.W.Frag) (D : Ends) (A : Nat → List Addr) (H : Hp) (A' : Nat → List Addr) (Hs' : Hp) (f : Fl) (σ' : L2.St) (H' : Hp) : Prop := match f with
  | .nx => D.nx σ' H'
  | .bk => D.bk σ' H'
  | .ct => D.ct σ' H'
  | .rt m d => ∀ v l, Own K Hs' H' m v d l → Fre A H A' Hs' l → D.rt v H'
/-- m, run as a statement; what p holds of is not stored to -/
def tS (T : Tx) (K : PySem.W.Frag) (W : WX) (p : Nat → Prop) (m : M Fl) : TS := fun D σ H => ∃ Hs e A, Rel K σ Hs H e A ∧ Pst T K W A Hs H (m e) fun f e' => ∀ σ' H' Hs' A', Stp A Hs H A' Hs' H' → Rel K σ' Hs' H' e' A' → Kp p σ σ' → endS K D A H A' Hs' f σ' H'
theorem Fre.back {A A1 A' : Nat → List Addr} {Hs H Hs1 H1 Hs' : Hp} {l : List Addr} (s : Stp A Hs H A1 Hs1 H1) (f : Fre A1 H1 A' Hs' l) : Fre A H A' Hs' l := ⟨f.nd, f.hs, f.dj, fun b hb => by
  rcases f.new b hb with ⟨j, hj⟩ | z
  · exact s.new j b hj
  · exact s.was z⟩
theorem endS.back {K : PySem.W.Frag} {D : Ends} {A A1 A' : Nat → List Addr} {Hs H Hs1 H1 Hs' : Hp} {f : Fl} {σ' : L2.St} {H' : Hp} (s : Stp A Hs H A1 Hs1 H1) (h : endS K D A H A' Hs' f σ' H') : endS K D A1 H1 A' Hs' f σ' H' := by
  cases f with
  | rt m d => exact fun v l o fr => h v l o (fr.back s)
  | _ => exact h
/-- the first part is run, the rest is read where it stands, at other slots' values too -/
theorem tS_at {T : Tx} {K : PySem.W.Frag} {W : WX} {p : Nat → Prop} {m : M Fl} {D : Ends} {σ0 σ : L2.St} {Hs0 H0 Hs H : Hp} {e : En} {A0 A : Nat → List Addr} (s : Stp A0 Hs0 H0 A Hs H) (k : Kp p σ0 σ) (R : Rel K σ Hs H e A)
    (P : Pst T K W A Hs H (m e) fun f e' => ∀ σ' H' Hs' A', Stp A0 Hs0 H0 A' Hs' H' → Rel K σ' Hs' H' e' A' → Kp p σ0 σ' → endS K D A0 H0 A' Hs' f σ' H') : tS T K W p m D σ H :=
  ⟨Hs, e, A, R, P.imp fun f e' g σ' H' Hs' A' s' R' k' => (g σ' H' Hs' A' (s.trans s') R' (k.trans k')).back s⟩

/-- a value, own n levels deep -/
def tWd (T : Tx) (K : PySem.W.Frag) (W : WX) (n : Nat) (m : M D) : TE := fun σ H Q =>
  ∃ Hs e A, Rel K σ Hs H e A ∧ Pst T K W A Hs H (m e) fun d e' => ∀ v H' Hs' A' l, Stp A Hs H A' Hs' H' → Rel K σ Hs' H' e' A' → Own K Hs' H' n v d l → Fre A H A' Hs' l → Q v H'
section
variable {T : Tx} {K : PySem.W.Frag} {W : WX} {σ : L2.St} {H : Hp} {Q : VK}
/-- a shared one -/
theorem tWd0 {m : M AV} (h : tWd T K W 0 (vM m) σ H Q) : tA T K W m σ H Q := by
  obtain ⟨Hs, e, A, R, g⟩ := h
  refine at_bind R g fun v a e1 Hs1 H1 A1 s1 R1 r1 P1 => ?_
  obtain ⟨d, rfl, P1⟩ := valM_inv P1
  exact P1 v H1 Hs1 A1 [] s1 R1 ⟨r1, rfl⟩ .nil
theorem tWd_of {n : Nat} {m : M D} (h : tWd T K W n m σ H Q) : tW T K W (do let d ← m; M.ret (n, d)) σ H Q := by
  obtain ⟨Hs, e, A, R, g⟩ := h
  refine ⟨Hs, e, A, R, ?_⟩
  show Pst T K W A Hs H ((m e).bind _) _
  cases q : m e with
  | ok d e' => rw [q] at g; exact g
  | ex x e' => rw [q] at g; exact g
  | bad => rw [q] at g; exact g
end

/-! ### an own container is changed -/
section
variable {K : PySem.W.Frag} {σ : L2.St} {Hs H : Hp} {e : En} {A : Nat → List Addr}
theorem Rel.reroot (R : Rel K σ Hs H e A) {i m : Nat} {c d' : D} {a : Addr} {u : HO} {ls' : List Addr} (hi : e[i]? = some (.ow (m + 1) c)) (hσ : σ[i]? = some (some (.ref a))) (ha : a ∈ A i)
    (o : Own K Hs (upd H a u) (m + 1) (.ref a) d' (a :: ls')) (nd : (a :: ls').Nodup) (hs : ∀ b ∈ ls', Hs b = none) (dj : ∀ j, j ≠ i → ∀ b ∈ ls', b ∉ A j) {A0 : Nat → List Addr} {Hs0 H0 : Hp} (s0 : Stp A0 Hs0 H0 A Hs H) (new : ∀ b ∈ ls', (∃ j, b ∈ A0 j) ∨ H0 b = none) :
    Rel K σ Hs (upd H a u) (e.set i (.ow (m + 1) d')) (inA A i (a :: ls')) ∧ Stp A0 Hs0 H0 (inA A i (a :: ls')) Hs (upd H a u) := by
  have il : i < e.length := (List.getElem?_eq_some_iff.mp hi).1
  have hsa : Hs a = none := R.fr i a ha
  constructor
  · have R0 : Rel K σ Hs (upd H a u) e (noA A i) → True := fun _ => trivial
    refine ⟨by simp [R.len], fun b w h => by rw [upd_ne (ne_of_none h hsa)]; exact R.sub b w h, fun j d h => ?_, fun j m' d h => ?_, fun j => ?_, fun j j' b h h' => ?_, fun j b h => ?_, fun j h => ?_, (let ⟨_, e1, c1⟩ := R.own_some ha; tabs_upd R.tb e1 c1), R.nt⟩
    · have hj : i ≠ j := fun z => by rw [← z, List.getElem?_set_self il] at h; cases h
      rw [List.getElem?_set_ne hj] at h
      exact R.sh j d h
    · by_cases hj : i = j
      · subst hj
        rw [List.getElem?_set_self il] at h
        cases h
        refine ⟨_, hσ, ?_⟩
        have : inA A i (a :: ls') i = a :: ls' := if_pos rfl
        rw [this]; exact o
      · rw [List.getElem?_set_ne hj] at h
        obtain ⟨v, h1, h2⟩ := R.ow j m' d h
        refine ⟨v, h1, ?_⟩
        have : inA A i (a :: ls') j = A j := if_neg (Ne.symm hj)
        rw [this]
        exact Own.mono (Same.refl _) m' (fun b hb w hw => by rw [upd_ne (fun z : b = a => hj (R.dj i j b (z ▸ ha) hb))]; exact hw) h2
    · unfold inA
      split
      · exact nd
      · exact R.nd j
    · have aux : ∀ {j : Nat} {b : Addr}, j ≠ i → b ∈ a :: ls' → b ∈ A j → False := fun {j b} hj hb hb' => by
        rcases List.mem_cons.mp hb with z | z
        · subst z; exact hj (R.dj j i b hb' ha)
        · exact dj j hj b z hb'
      unfold inA at h h'
      split at h
      · split at h'
        · rename_i q q'; exact q.trans q'.symm
        · rename_i q q'; exact (aux q' h h').elim
      · split at h'
        · rename_i q q'; exact (aux q h' h).elim
        · exact R.dj j j' b h h'
    · unfold inA at h
      split at h
      · rcases List.mem_cons.mp h with z | z
        · rw [z]; exact hsa
        · exact hs b z
      · exact R.fr j b h
    · unfold inA
      split
      · rename_i q
        subst q
        exact absurd (List.getElem?_set_self il) (h _ _)
      · rename_i q
        exact R.em j fun m d z => h m d (by rw [List.getElem?_set_ne (Ne.symm q)]; exact z)
  · refine ⟨s0.hs, fun b w h n t => ?_, fun j b h => ?_, s0.shn, fun b t h => ?_⟩
    · have : b ≠ a := fun z => by
        subst z
        rcases s0.new i b ha with ⟨j, hj⟩ | z
        · exact n j hj
        · rw [z] at h; cases h
      rw [upd_ne this]
      exact s0.fr b w h n t
    · unfold inA at h
      split at h
      · rcases List.mem_cons.mp h with z | z
        · rw [z]; exact s0.new i a ha
        · exact new b z
      · exact s0.new j b h
    · by_cases hb : b = a
      · rw [hb, upd_same]; simp
      · rw [upd_ne hb]; exact s0.tb b t h
theorem OwnAll.append {P : V → D → List Addr → Prop} : ∀ {vs ws : List V} {ds es : List D} {ls ms : List Addr}, OwnAll P vs ds ls → OwnAll P ws es ms → OwnAll P (vs ++ ws) (ds ++ es) (ls ++ ms)
  | _, _, _, _, _, _, .nil, s => s
  | _, _, _, _, _, _, .cons a r, s => by
    rw [List.append_assoc]
    exact .cons a (OwnAll.append r s)
theorem OwnAll.one {P : V → D → List Addr → Prop} {v : V} {d : D} {l : List Addr} (h : P v d l) : OwnAll P [v] [d] l := by
  have := OwnAll.cons h OwnAll.nil
  rwa [List.append_nil] at this
theorem OwnAll.length {P : V → D → List Addr → Prop} : ∀ {vs : List V} {ds : List D} {ls : List Addr}, OwnAll P vs ds ls → vs.length = ds.length
  | _, _, _, .nil => rfl
  | _, _, _, .cons _ r => by simp [OwnAll.length r]
theorem OwnAll.set {P : V → D → List Addr → Prop} {v : V} {d : D} {l : List Addr} (p : P v d l) (nl : l.Nodup) : ∀ {vs : List V} {ds : List D} {ls : List Addr} (j : Nat), j < vs.length → OwnAll P vs ds ls → ls.Nodup → (∀ b ∈ l, b ∉ ls) →
    ∃ ls', OwnAll P (vs.set j v) (ds.set j d) ls' ∧ ls'.Nodup ∧ ∀ b ∈ ls', b ∈ ls ∨ b ∈ l
  | _, _, _, _, h, .nil, _, _ => absurd h (by simp)
  | _, _, _, 0, _, .cons (l := l0) (ls := ls) a r, nd, dj => by
    rw [List.nodup_append] at nd
    refine ⟨l ++ ls, .cons p r, List.nodup_append.mpr ⟨nl, nd.2.1, fun x hx y hy z => dj x hx (List.mem_append_right _ (z ▸ hy))⟩, fun b hb => ?_⟩
    rcases List.mem_append.mp hb with z | z
    · exact .inr z
    · exact .inl (List.mem_append_right _ z)
  | _, _, _, j + 1, h, .cons (l := l0) (ls := ls) a r, nd, dj => by
    rw [List.nodup_append] at nd
    obtain ⟨ls', h1, h2, h3⟩ := OwnAll.set p nl j (by simpa using h) r nd.2.1 fun b hb z => dj b hb (List.mem_append_right _ z)
    refine ⟨l0 ++ ls', .cons a h1, List.nodup_append.mpr ⟨nd.1, h2, fun x hx y hy z => ?_⟩, fun b hb => ?_⟩
    · subst z
      rcases h3 x hy with w | w
      · exact nd.2.2 x hx x w rfl
      · exact dj x w (List.mem_append_left _ hx)
    · rcases List.mem_append.mp hb with z | z
      · exact .inl (List.mem_append_left _ z)
      · rcases h3 b z with w | w
        · exact .inl (List.mem_append_right _ w)
        · exact .inr w
theorem OwnAll.upd {Hs H : Hp} {a : Addr} {u : HO} {m : Nat} {vs : List V} {ds : List D} {ls : List Addr} (h : OwnAll (Own K Hs H m) vs ds ls) (n : a ∉ ls) : OwnAll (Own K Hs (upd H a u) m) vs ds ls :=
  h.imp fun v d l hl o => Own.mono (Same.refl _) m (fun b hb w hw => by rw [upd_ne (fun z : b = a => n (z ▸ hl b hb))]; exact hw) o
/-- an own slot's list -/
theorem Rel.ow_list (R : Rel K σ Hs H e A) {i w : Nat} {xs : List D} (hi : e[i]? = some (.ow w (.list xs))) (hw : w ≠ 0) : ∃ m a vs ls, w = m + 1 ∧ σ[i]? = some (some (.ref a)) ∧ H a = some (.lst vs) ∧ OwnAll (Own K Hs H m) vs xs ls ∧ A i = a :: ls ∧ a ∉ ls ∧ ls.Nodup := by
  obtain ⟨m, rfl⟩ : ∃ m, w = m + 1 := ⟨w - 1, by omega⟩
  obtain ⟨v, hv, o⟩ := R.ow i _ _ hi
  rcases o with ⟨a, vs, ds, ls, rfl, e1, e2, e3, e4⟩ | ⟨a, kvs, ds, ls, rfl, e1, e2, e3, e4⟩
  · cases e1
    have nd := R.nd i
    rw [e4, List.nodup_cons] at nd
    exact ⟨m, a, vs, ls, rfl, hv, e2, e3, e4, nd.1, nd.2⟩
  · cases e1
theorem updO_inv {i : Nat} {f : Nat → D → Option D} {e : En} {T : Tx} {K : PySem.W.Frag} {W : WX} {A : Nat → List Addr} {Hs H : Hp} {g : Unit → En → Prop} (h : Pst T K W A Hs H (updO i f e) g) :
    ∃ w d d', e[i]? = some (.ow w d) ∧ f w d = some d' ∧ g () (e.set i (.ow w d')) := by
  unfold updO at h
  obtain ⟨w, d, hi, h⟩ := rdO_inv (Pst.bind h)
  obtain ⟨d', hd, h⟩ := ofO_inv (Pst.bind h)
  exact ⟨w, d, d', hi, hd, h⟩
/-- one more item, own m levels deep -/
theorem Rel.app (R : Rel K σ Hs H e A) {i m w : Nat} {c d d' : D} {v : V} {l : List Addr} (hi : e[i]? = some (.ow w c)) (hf : appF m d w c = some d') (o : Own K Hs H m v d l) (nd : l.Nodup) (hs : ∀ b ∈ l, Hs b = none) (dj : ∀ j, ∀ b ∈ l, b ∉ A j) {A0 : Nat → List Addr} {Hs0 H0 : Hp} (s0 : Stp A0 Hs0 H0 A Hs H) (new : ∀ b ∈ l, (∃ j, b ∈ A0 j) ∨ H0 b = none) :
    ∃ a vs, σ[i]? = some (some (.ref a)) ∧ H a = some (.lst vs) ∧ vs.length < sizeLine ∧ ∃ A', Rel K σ Hs (upd H a (.lst (vs ++ [v]))) (e.set i (.ow w d')) A' ∧ Stp A0 Hs0 H0 A' Hs (upd H a (.lst (vs ++ [v]))) := by
  unfold appF at hf
  split at hf
  · rename_i xs
    split at hf
    · rename_i q
      cases hf
      obtain ⟨rfl, hl⟩ := q
      obtain ⟨m', a, vs, ls, em, h1, h2, h3, h4, h5, h6⟩ := R.ow_list hi (by omega)
      cases em
      have al : a ∉ l := fun z => dj i a z (by rw [h4]; simp)
      have dl : ∀ b ∈ ls, b ∉ l := fun b hb z => dj i b z (by rw [h4]; simp [hb])
      refine ⟨a, vs, h1, h2, by rw [h3.length]; exact sline_eq ▸ hl, inA A i (a :: (ls ++ l)), R.reroot hi h1 (by rw [h4]; simp) (.inl ⟨a, _, _, _, rfl, rfl, upd_same, (h3.append (.one o)).upd ?_, rfl⟩) ?_ ?_ ?_ s0 ?_⟩
      · simp only [List.mem_append, not_or]; exact ⟨h5, al⟩
      · rw [List.nodup_cons, List.nodup_append]
        refine ⟨by simp only [List.mem_append, not_or]; exact ⟨h5, al⟩, h6, nd, fun x hx y hy z => dl x hx (z ▸ hy)⟩
      · intro b hb
        rcases List.mem_append.mp hb with z | z
        · exact R.fr i b (by rw [h4]; simp [z])
        · exact hs b z
      · intro j hj b hb z
        rcases List.mem_append.mp hb with y | y
        · exact hj (R.dj j i b z (by rw [h4]; simp [y]))
        · exact dj j b y z
      · intro b hb
        rcases List.mem_append.mp hb with y | y
        · exact s0.new i b (by rw [h4]; simp [y])
        · exact new b y
    · cases hf
  · cases hf
/-- an item stored -/
theorem Rel.sto (R : Rel K σ Hs H e A) {i m w : Nat} {xs : List D} {k d d' : D} {v : V} {l : List Addr} (hi : e[i]? = some (.ow w (.list xs))) (hf : stoF m k d w (.list xs) = some d') (o : Own K Hs H m v d l) (nd : l.Nodup) (hs : ∀ b ∈ l, Hs b = none) (dj : ∀ j, ∀ b ∈ l, b ∉ A j) {A0 : Nat → List Addr} {Hs0 H0 : Hp} (s0 : Stp A0 Hs0 H0 A Hs H) (new : ∀ b ∈ l, (∃ j, b ∈ A0 j) ∨ H0 b = none) :
    ∃ a vs z j, k = .int z ∧ σ[i]? = some (some (.ref a)) ∧ H a = some (.lst vs) ∧ L2.ixN vs.length z = some j ∧ ∃ A', Rel K σ Hs (upd H a (.lst (vs.set j v))) (e.set i (.ow w d')) A' ∧ Stp A0 Hs0 H0 A' Hs (upd H a (.lst (vs.set j v))) := by
  unfold stoF at hf
  simp only at hf
  split at hf
  · rename_i q
    subst q
    split at hf
    · rename_i z
      obtain ⟨m', a, vs, ls, em, h1, h2, h3, h4, h5, h6⟩ := R.ow_list hi (by omega)
      cases em
      cases hj : L2.ixN xs.length z with
      | none =>
        have hf : (L2.ixN xs.length z).map _ = some d' := hf
        rw [hj] at hf; cases hf
      | some j =>
        have hf : (L2.ixN xs.length z).map (fun j => PyData.list (xs.set j d)) = some d' := hf
        rw [hj] at hf
        cases hf
        have hjl : j < vs.length := by rw [h3.length]; exact (ixN_seq hj).2.1
        obtain ⟨ls', g1, g2, g3⟩ := h3.set o nd j hjl h6 fun b hb z => dj i b hb (by rw [h4]; simp [z])
        have al : a ∉ ls' := fun z => by
          rcases g3 a z with y | y
          · exact h5 y
          · exact dj i a y (by rw [h4]; simp)
        refine ⟨a, vs, z, j, rfl, h1, h2, by rw [h3.length]; exact hj, inA A i (a :: ls'), R.reroot hi h1 (by rw [h4]; simp) (.inl ⟨a, _, _, _, rfl, rfl, upd_same, g1.upd al, rfl⟩) ?_ ?_ ?_ s0 ?_⟩
        · exact List.nodup_cons.mpr ⟨al, g2⟩
        · intro b hb
          rcases g3 b hb with y | y
          · exact R.fr i b (by rw [h4]; simp [y])
          · exact hs b y
        · intro j' hj' b hb z
          rcases g3 b hb with y | y
          · exact hj' (R.dj j' i b z (by rw [h4]; simp [y]))
          · exact dj j' b y z
        · intro b hb
          rcases g3 b hb with y | y
          · exact s0.new i b (by rw [h4]; simp [y])
          · exact new b y
    · cases hf
  · cases hf
end
end Pv

/-! PvS11: statements' rules. -/
namespace Pv
open PySem PySem.Spec PyProof.Rows L2
variable [TabC]

theorem _root_.L2.PS.monoI {X : Cx} {st : Stmt} {t u : TS} (h : PS X st t) (f : ∀ D σ H, σ.length = X.N.length → u D σ H → t D σ H) : PS X st u := ⟨fun pins s σ H D I q => h.run pins s σ H D I (f D σ H I.len q)⟩
section
variable {X : Cx} {T : Tx} {W : WX} {p : Nat → Prop} {i : Nat} {x : Str} {e : Expr} {te : TE} {pos pos' : Pos}
theorem asg_at {m : M D} {K : PySem.W.Frag} (ht : ∀ σ H Q, tWd T K W 0 m σ H Q → te σ H Q) (hp : ¬ p i) {D : Ends} {σ : L2.St} {H : Hp} (h : tS T K W p (asgM i m) D σ H) : tAsg te (gName i) D σ H := by
  obtain ⟨Hs, e, A, R, g⟩ := h
  refine ht σ H _ ⟨Hs, e, A, R, (Pst.bind g).imp fun d e' g' v H' Hs' A' l s' R' o fr => ?_⟩
  exact g' _ H' Hs' (noA A' i) (s'.trans noA_stp) (R'.set_sh o.1 i) (.set hp)
theorem Stp.put {A A' : Nat → List Addr} {Hs H Hs' H' : Hp} {l : List Addr} {i : Nat} (s : Stp A Hs H A' Hs' H') (f : ∀ b ∈ l, (∃ j, b ∈ A j) ∨ H b = none) : Stp A Hs H (inA A' i l) Hs' H' := ⟨s.hs, s.fr, fun j b h => by
  unfold inA at h
  split at h
  · exact f b h
  · exact s.new j b h, s.shn, s.tb⟩
theorem asgW_at {m : M D} {K : PySem.W.Frag} {n : Nat} (ht : ∀ σ H Q, tWd T K W n m σ H Q → te σ H Q) (hp : ¬ p i) {D : Ends} {σ : L2.St} {H : Hp} (hl : i < σ.length) (h : tS T K W p (asgW n i m) D σ H) : tAsg te (gName i) D σ H := by
  obtain ⟨Hs, e, A, R, g⟩ := h
  refine ht σ H _ ⟨Hs, e, A, R, (Pst.bind g).imp fun d e' g' v H' Hs' A' l s' R' o fr => ?_⟩
  exact g' _ H' Hs' (inA A' i l) (s'.put fr.new) (R'.set_ow (by rw [← R'.len]; exact hl) o fr.nd fr.hs fun j _ b hb => fr.dj j b hb) (.set hp)
theorem unp_at {m : M AV} {ts : Tgs} {D : Ends} {σ : L2.St} {H : Hp} (h : tS T X.K W p (unpM ts (vM m)) D σ H) : tAsg (tA T X.K W m) (tG T X.K W p (bindT (.tp ts))) D σ H := by
  obtain ⟨Hs, e, A, R, g⟩ := h
  refine at_bind R (g.bind : Pst _ _ _ _ _ _ ((m e).bind _) _) fun v a e1 Hs1 H1 A1 s1 R1 r1 P1 => ?_
  obtain ⟨d, rfl, P2⟩ := valM_inv P1
  exact ⟨Hs1, e1, A1, d, R1, r1, ((Pst.bind P2).later s1).imp fun _ e' g' σ' H' Hs' A' s' R' k' => g' σ' H' Hs' A' (s1.trans s') R' k'⟩
theorem aug_at {m : M AV} {op : Operator} {K : PySem.W.Frag} (hp : ¬ p i) {D : Ends} {σ : L2.St} {H : Hp} {f : Int → Int → Int} (hf : ∀ a d r, augF op a d = some r → ∃ i j, a = .int i ∧ d = .int j ∧ r = .int (f i j)) (h : tS T K W p (augM op i (vM m)) D σ H) :
    tAug i (tA T K W m) (ipI f) D σ H := by
  obtain ⟨Hs, e, A, R, g⟩ := h
  obtain ⟨a, hi, g1⟩ := rdS_inv g.bind
  obtain ⟨v, hv, rv⟩ := R.sh i a hi
  refine ⟨v, hv, ?_⟩
  have g1 := Pst.bind g1
  refine at_bind R (g1 : Pst _ _ _ _ _ _ ((m e).bind _) _) fun w b e1 Hs1 H1 A1 s1 R1 r1 P1 => ?_
  obtain ⟨d, rfl, P2⟩ := valM_inv P1
  obtain ⟨r, hr, P3⟩ := ofO_inv (Pst.bind P2)
  obtain ⟨i', j', rfl, rfl, rfl⟩ := hf _ _ _ hr
  exact ⟨i', j', rv.int_inv, Rp.int_inv r1, P3 _ H1 Hs1 (noA A1 i) (s1.trans noA_stp) (R1.set_sh (.int _) i) (.set hp)⟩
theorem augF_add {a d r : D} (h : augF .Add a d = some r) : ∃ i j, a = .int i ∧ d = .int j ∧ r = .int (i + j) := by
  cases a <;> cases d <;> simp only [augF, binD] at h <;> first | cases h | skip
  exact ⟨_, _, rfl, rfl, rfl⟩
theorem augF_sub {a d r : D} (h : augF .Sub a d = some r) : ∃ i j, a = .int i ∧ d = .int j ∧ r = .int (i - j) := by
  cases a <;> cases d <;> simp only [augF, binD] at h <;> first | cases h | skip
  exact ⟨_, _, rfl, rfl, rfl⟩
theorem exp_at {m : M AV} {K : PySem.W.Frag} {D : Ends} {σ : L2.St} {H : Hp} (h : tS T K W p (expM m) D σ H) : tDrop (tA T K W m) D σ H := by
  obtain ⟨Hs, e, A, R, g⟩ := h
  exact ⟨Hs, e, A, R, (Pst.bind g).imp fun d e' g' v H' Hs' A' s' R' r' => g' σ H' Hs' A' s' R' .refl⟩
theorem ret_at {m : M D} {n : Nat} {K : PySem.W.Frag} (ht : ∀ σ H Q, tWd T K W n m σ H Q → te σ H Q) {D : Ends} {σ : L2.St} {H : Hp} (h : tS T K W p (retM n m) D σ H) : tRet te D σ H := by
  obtain ⟨Hs, e, A, R, g⟩ := h
  exact ht σ H _ ⟨Hs, e, A, R, (Pst.bind g).imp fun d e' g' v H' Hs' A' l s' R' o fr => g' σ H' Hs' A' s' R' .refl v l o fr⟩
theorem retn_at {K : PySem.W.Frag} {D : Ends} {σ : L2.St} {H : Hp} (h : tS T K W p (M.ret (.rt 0 .none)) D σ H) : tRetN D σ H := by
  obtain ⟨Hs, e, A, R, g⟩ := h
  exact g σ H Hs A .refl R .refl .non [] ⟨.non, rfl⟩ .nil
theorem reto_at {K : PySem.W.Frag} {D : Ends} {σ : L2.St} {H : Hp} (h : tS T K W p (retoM i) D σ H) : ∃ v, σ[i]? = some (some v) ∧ D.rt v H := by
  obtain ⟨Hs, e, A, R, g⟩ := h
  obtain ⟨m, d, hi, g1⟩ := rdO_inv g.bind
  obtain ⟨v, hv, o⟩ := R.ow i m d hi
  refine ⟨v, hv, ?_⟩
  have R' : Rel K σ Hs H (e.set i .no) (noA A i) := by
    have := R.set_no i (some v)
    rwa [show σ.set i (some v) = σ from ?_] at this
    apply List.ext_getElem?
    intro j
    by_cases hj : i = j
    · subst hj
      rw [List.getElem?_set_self (List.getElem?_eq_some_iff.mp hv).1, hv]
    · rw [List.getElem?_set_ne hj]
  exact g1 σ H Hs (noA A i) noA_stp R' .refl v (A i) o ⟨R.nd i, R.fr i, fun j b hb hb' => (noA_mem hb').2 (R.dj j i b (noA_mem hb').1 hb), fun b hb => .inl ⟨i, hb⟩⟩
theorem ite_at {mc : M Bool} {a b : M Fl} {K : PySem.W.Frag} {D : Ends} {σ : L2.St} {H : Hp} (h : tS T K W p (iteM mc a b) D σ H) : tIfS (tT T K W mc) (tS T K W p a) (tS T K W p b) D σ H := by
  obtain ⟨Hs, e, A, R, g⟩ := h
  refine at_bind R g fun v t e1 Hs1 H1 A1 s1 R1 r1 P1 => ?_
  have r1 : v = t := r1
  subst r1
  cases v with
  | true => exact iteT (tS_at s1 .refl R1 (P1.imp fun f e' g' σ' H' Hs' A' s' R' k' => g' σ' H' Hs' A' s' R' k'))
  | false => exact iteF (tS_at s1 .refl R1 (P1.imp fun f e' g' σ' H' Hs' A' s' R' k' => g' σ' H' Hs' A' s' R' k'))
theorem seq_at {a b : M Fl} {K : PySem.W.Frag} {D : Ends} {σ : L2.St} {H : Hp} (h : tS T K W p (seqM a b) D σ H) : tSeq (tS T K W p a) (tS T K W p b) D σ H := by
  obtain ⟨Hs, e, A, R, g⟩ := h
  refine ⟨Hs, e, A, R, (Pst.bind g).imp fun f e' g' σ' H' Hs' A' s' R' k' => ?_⟩
  cases f with
  | nx => exact tS_at s' k' R' (Pst.later g' s')
  | bk => exact g' σ' H' Hs' A' s' R' k'
  | ct => exact g' σ' H' Hs' A' s' R' k'
  | rt m d => exact g' σ' H' Hs' A' s' R' k'
theorem frz_at {b : M Fl} {K : PySem.W.Frag} {D : Ends} {σ : L2.St} {H : Hp} (h : tS T K W p (seqM (frzM i) b) D σ H) : tS T K W p b D σ H := by
  obtain ⟨Hs, e, A, R, g⟩ := h
  have g := Pst.bind g
  obtain ⟨m, d, hi, g1⟩ := rdO_inv (Pst.bind g)
  obtain ⟨Hs', A', s, R', v, hv, r⟩ := R.frz hi
  exact tS_at s .refl R' (Pst.later g1 s)
theorem nx_at {K : PySem.W.Frag} {D : Ends} {σ : L2.St} {H : Hp} (h : tS T K W p (M.ret .nx) D σ H) : tNext D σ H := by
  obtain ⟨Hs, e, A, R, g⟩ := h
  exact g σ H Hs A .refl R .refl
theorem bk_at {K : PySem.W.Frag} {D : Ends} {σ : L2.St} {H : Hp} (h : tS T K W p (M.ret .bk) D σ H) : tBreak D σ H := by
  obtain ⟨Hs, e, A, R, g⟩ := h
  exact g σ H Hs A .refl R .refl
theorem ct_at {K : PySem.W.Frag} {D : Ends} {σ : L2.St} {H : Hp} (h : tS T K W p (M.ret .ct) D σ H) : tCont D σ H := by
  obtain ⟨Hs, e, A, R, g⟩ := h
  exact g σ H Hs A .refl R .refl
/-- x.append(e) -/
theorem rdL_inv {i : Nat} {e : En} {A : Nat → List Addr} {Hs H : Hp} {K : PySem.W.Frag} {g : Unit → En → Prop} (h : Pst T K W A Hs H (rdL i e) g) : ∃ w xs, e[i]? = some (.ow w (.list xs)) ∧ g () e := by
  unfold rdL at h
  split at h
  · rename_i w xs hi; exact ⟨w, xs, hi, h⟩
  · exact h.elim
theorem Rel.own_lst {K : PySem.W.Frag} {σ : L2.St} {Hs H : Hp} {e : En} {A : Nat → List Addr} (R : Rel K σ Hs H e A) {i w : Nat} {xs : List D} (hi : e[i]? = some (.ow w (.list xs))) : ∃ v, σ[i]? = some (some v) ∧ tyV K "list" v H := by
  obtain ⟨v, hv, o⟩ := R.ow i w _ hi
  refine ⟨v, hv, ?_⟩
  cases w with
  | zero =>
    have := o.1
    cases this with
    | lst sq r => exact .inl ⟨rfl, _, sqL_mono R.sub sq⟩
  | succ m =>
    rcases o with ⟨a, vs, ds, ls, rfl, e1, e2, e3, e4⟩ | ⟨a, kvs, ds, ls, rfl, e1, e2, e3, e4⟩
    · exact .inl ⟨rfl, _, SqL.of e2⟩
    · cases e1
theorem app_at {m : M D} {n : Nat} {K : PySem.W.Frag} (ht : ∀ σ H Q, tWd T K W n m σ H Q → te σ H Q) {D : Ends} {σ : L2.St} {H : Hp} (h : tS T K W p (appM i n m) D σ H) :
    tDrop (tBM K "list" rAppend (fun σ H Q => ∃ v, σ[i]? = some (some v) ∧ Q v H) (fun σ H Q => te σ H fun v H' => Q [v] H')) D σ H := by
  obtain ⟨Hs, e, A, R, g⟩ := h
  obtain ⟨w, xs, hi, g1⟩ := rdL_inv (Pst.bind g)
  obtain ⟨v, hv, ty⟩ := R.own_lst hi
  refine ⟨v, hv, ty, ht σ H _ ⟨Hs, e, A, R, (Pst.bind g1).imp fun d e' g' u H' Hs' A' l s' R' o fr => ?_⟩⟩
  obtain ⟨w', c, d', hi', hf, g2⟩ := updO_inv (Pst.bind (Pst.later g' s'))
  obtain ⟨a, vs, h1, h2, h3, A2, R2, s2⟩ := R'.app hi' hf o fr.nd fr.hs (fun j b hb => fr.dj j b hb) s' fr.new
  rw [hv] at h1
  cases h1
  exact ⟨a, vs, u, rfl, rfl, h2, h3, g2 σ _ Hs' A2 s2 R2 .refl⟩
/-- a new own value stays so through a step -/
theorem own_keep {K : PySem.W.Frag} {A A' A2 : Nat → List Addr} {H Hs' H' Hs2 H2 : Hp} {n : Nat} {v : V} {d : D} {l : List Addr} (tb : LamX.Tabs TabC.T H') (o : Own K Hs' H' n v d l) (fr : Fre A H A' Hs' l) (s : Stp A' Hs' H' A2 Hs2 H2) :
    Own K Hs2 H2 n v d l ∧ Fre A H A2 Hs2 l := by
  have hc := Own.cont n o
  refine ⟨Own.mono s.hs n (fun b hb w hw => s.fr b w hw (fun j hj => fr.dj j b hb hj) fun t => (let ⟨_, e1, c1⟩ := hc b hb; isTab.noc tb e1 c1 t)) o, fr.nd, fun b hb => ?_, fun j b hb hj => ?_, fr.new⟩
  · cases z : Hs2 b with
    | none => rfl
    | some w =>
      obtain ⟨u, hu, _⟩ := hc b hb
      rcases s.shn b (by rw [z]; simp) with y | ⟨j, hj⟩ | y
      · exact absurd (fr.hs b hb) y
      · exact absurd hj (fr.dj j b hb)
      · rw [hu] at y; cases y
  · obtain ⟨u, hu, _⟩ := hc b hb
    rcases s.new j b hj with ⟨q, hq⟩ | y
    · exact fr.dj q b hb hq
    · rw [hu] at y; cases y
/-- x[k] = e -/
theorem sto_at {m : M D} {mk : M AV} {n : Nat} {K : PySem.W.Frag} (ht : ∀ σ H Q, tWd T K W n m σ H Q → te σ H Q) {D : Ends} {σ : L2.St} {H : Hp} (h : tS T K W p (stoM i n m mk) D σ H) :
    tAsg te (gSub (fun σ H Q => ∃ v, σ[i]? = some (some v) ∧ Q v H) (tA T K W mk) rSetL) D σ H := by
  obtain ⟨Hs, e, A, R, g⟩ := h
  refine ht σ H _ ⟨Hs, e, A, R, (Pst.bind g).imp fun d e' g' u H' Hs' A' l s' R' o fr => ?_⟩
  obtain ⟨w, c, hi, g1⟩ := rdO_inv (Pst.bind g')
  obtain ⟨v, hv, _⟩ := R'.ow i w c hi
  refine ⟨v, hv, ?_⟩
  refine at_bind R' ((Pst.later g1 s').bind : Pst _ _ _ _ _ _ ((mk e').bind _) _) fun kv ka e2 Hs2 H2 A2 s2 R2 r2 P2 => ?_
  obtain ⟨kd, ek, P3⟩ := valM_inv P2
  subst ek
  obtain ⟨w', c', d', hi', hf, g2⟩ := updO_inv (Pst.bind P3)
  obtain ⟨o2, fr2⟩ := own_keep R'.tb o fr s2
  have hcl : ∃ xs, c' = .list xs := by
    unfold stoF at hf
    split at hf
    · exact ⟨_, rfl⟩
    · cases hf
  obtain ⟨xs, rfl⟩ := hcl
  obtain ⟨a, vs, z, j, ez, h1, h2, h3, A3, R3, s3⟩ := R2.sto hi' hf o2 fr2.nd fr2.hs (fun j b hb => fr2.dj j b hb) (s'.trans s2) fr2.new
  subst ez
  rw [hv] at h1
  cases h1
  exact ⟨a, vs, z, j, rfl, Rp.int_inv r2, h2, h3, g2 σ _ Hs2 A3 s3 R3 .refl⟩

/-! ### loops -/
theorem for_at {mi : M (List D)} {tg : Tg} {b : M Fl} {K : PySem.W.Frag} {D : Ends} {σ : L2.St} {H : Hp} (h : tS T K W p (forM mi tg b) D σ H) : tFor (tI T K W mi) (tG T K W p (bindT tg)) (tS T K W p b) D σ H := by
  obtain ⟨Hs, e, A, R, g⟩ := h
  show tI T K W mi σ H _
  refine at_bind R g fun J items e1 Hs1 H1 A1 s1 R1 wk P1 => ?_
  let good : Fl → En → Prop := fun f e' => ∀ σ' H' Hs' A', Stp A Hs H A' Hs' H' → Rel K σ' Hs' H' e' A' → Kp p σ σ' → endS K D A H A' Hs' f σ' H'
  let G : Nat → L2.St → Hp → Prop := fun i σ' H' => i ≤ items.length ∧ ∃ Hs2 e2 A2, Same Hs1 Hs2 ∧ Stp A Hs H A2 Hs2 H' ∧ Kp p σ σ' ∧ Rel K σ' Hs2 H' e2 A2 ∧ Pst T K W A2 Hs2 H' (forL tg b (items.drop i) e2) good
  refine ⟨fun i m σ' H' => m = items.length - i ∧ G i σ' H', ⟨_, rfl, Nat.zero_le _, Hs1, e1, A1, Same.refl _, s1, .refl, R1, P1⟩, ?_⟩
  rintro i m σ2 H2 ⟨rfl, hi, Hs2, e2, A2, z1, z2, z3, R2, P2⟩
  cases q : items[i]? with
  | none =>
    have hge : items.length ≤ i := List.getElem?_eq_none_iff.mp q
    refine .inl ⟨(wk Hs2 H2 z1 R2.sub i).2 hge, ?_⟩
    rw [List.drop_eq_nil_of_le hge] at P2
    exact P2 σ2 H2 Hs2 A2 z2 R2 z3
  | some d =>
    have hlt : i < items.length := (List.getElem?_eq_some_iff.mp q).1
    obtain ⟨go, yl⟩ := (wk Hs2 H2 z1 R2.sub i).1 d q
    refine .inr ⟨go, G (i + 1), fun σ' H' g => ⟨_, by omega, rfl, g⟩, fun x H3 y => ?_⟩
    obtain ⟨Hs3, ex, rx⟩ := yl x H3 y
    have hdrop : items.drop i = d :: items.drop (i + 1) := by
      rw [List.drop_eq_getElem_cons hlt]
      have : items[i] = d := (List.getElem?_eq_some_iff.mp q).2
      rw [this]
    rw [hdrop] at P2
    have P3 : Pst T K W A2 Hs3 H3 _ good := Pst.later P2 ex.stp
    refine ⟨Hs3, e2, A2, d, R2.ext ex, rx, (Pst.bind P3).imp fun _ e4 g4 σ4 H4 Hs4 A4 s4 R4 k4 => ?_⟩
    refine ⟨Hs4, e4, A4, R4, (Pst.bind (Pst.later g4 s4)).imp fun f e5 g5 σ5 H5 Hs5 A5 s5 R5 k5 => ?_⟩
    have st : Stp A Hs H A5 Hs5 H5 := ((z2.trans ex.stp).trans s4).trans s5
    have kk : Kp p σ σ5 := (z3.trans k4).trans k5
    cases f with
    | nx => exact ⟨hlt, Hs5, e5, A5, ((z1.trans ex.hs).trans s4.hs).trans s5.hs, st, kk, R5, Pst.later g5 s5⟩
    | ct => exact ⟨hlt, Hs5, e5, A5, ((z1.trans ex.hs).trans s4.hs).trans s5.hs, st, kk, R5, Pst.later g5 s5⟩
    | bk => exact g5 σ5 H5 Hs5 A5 st R5 kk
    | rt m d => exact fun v l o fr => g5 σ5 H5 Hs5 A5 st R5 kk v l o (fr.back ((z2.trans ex.stp).trans s4))
theorem whl_at {mc : M Bool} {b : M Fl} {n : Nat} {K : PySem.W.Frag} {D : Ends} {σ : L2.St} {H : Hp} (h : tS T K W p (whileL mc b n) D σ H) : tWhile (tT T K W mc) (tS T K W p b) D σ H := by
  obtain ⟨Hs, e, A, R, g⟩ := h
  let good : Fl → En → Prop := fun f e' => ∀ σ' H' Hs' A', Stp A Hs H A' Hs' H' → Rel K σ' Hs' H' e' A' → Kp p σ σ' → endS K D A H A' Hs' f σ' H'
  let G : Nat → L2.St → Hp → Prop := fun m σ' H' => ∃ Hs2 e2 A2, Stp A Hs H A2 Hs2 H' ∧ Kp p σ σ' ∧ Rel K σ' Hs2 H' e2 A2 ∧ Pst T K W A2 Hs2 H' (whileL mc b m e2) good
  refine ⟨G, ⟨n, Hs, e, A, .refl, .refl, R, g⟩, ?_⟩
  rintro m σ2 H2 ⟨Hs2, e2, A2, z2, z3, R2, P2⟩
  cases m with
  | zero => exact P2.elim
  | succ m =>
    refine at_bind R2 P2 fun v t e3 Hs3 H3 A3 s3 R3 r3 P3 => ?_
    have r3 : v = t := r3
    subst r3
    cases v with
    | true =>
      rw [if_pos rfl]
      refine ⟨G m, fun σ' H' g => ⟨m, Nat.lt_succ_self _, g⟩, Hs3, e3, A3, R3, (Pst.bind P3).imp fun f e5 g5 σ5 H5 Hs5 A5 s5 R5 k5 => ?_⟩
      have st : Stp A Hs H A5 Hs5 H5 := (z2.trans s3).trans s5
      have kk : Kp p σ σ5 := z3.trans k5
      cases f with
      | nx => exact ⟨Hs5, e5, A5, st, kk, R5, Pst.later g5 s5⟩
      | ct => exact ⟨Hs5, e5, A5, st, kk, R5, Pst.later g5 s5⟩
      | bk => exact g5 σ5 H5 Hs5 A5 st R5 kk
      | rt m d => exact fun v l o fr => g5 σ5 H5 Hs5 A5 st R5 kk v l o (fr.back (z2.trans s3))
    | false =>
      rw [if_neg Bool.false_ne_true]
      exact P3 σ2 H3 Hs3 A3 (z2.trans s3) R3 z3
end
end Pv

/-! PvS12: values of one's own; methods that change their list. -/
namespace Pv
open PySem PySem.Spec PyProof.Rows L2
variable [TabC]

section
variable {X : Cx} {T : Tx} {W : WX} {p : Nat → Prop} {K : PySem.W.Frag}
def tAsW (T : Tx) (K : PySem.W.Frag) (W : WX) (n : Nat) (m : M (List D)) : TA := fun σ H Q =>
  ∃ Hs e A, Rel K σ Hs H e A ∧ Pst T K W A Hs H (m e) fun ds e' => ∀ vs H' Hs' A' ls, Stp A Hs H A' Hs' H' → Rel K σ Hs' H' e' A' → OwnAll (Own K Hs' H' n) vs ds ls → Fre A H A' Hs' ls → Q vs H'
/-- a part, then a part of one's own -/
theorem atW_bind {α ω : Type} {ρ : L2.St → Hp → Hp → ω → α → Prop} {σ : L2.St} {Hs H : Hp} {e : En} {A : Nat → List Addr} {m : M α} {k : α → M D} {n : Nat} {Q : VK} {Q1 : ω → Hp → Prop} (h : tWd T K W n (fun e => (m e).bind k) σ H Q)
    (f : ∀ (v : ω) (a : α) (e' : En) (Hs' H' : Hp) (A' : Nat → List Addr), Rel K σ Hs' H' e' A' → ρ σ Hs' H' v a → tWd T K W n (k a) σ H' Q → Q1 v H') : tM T K W ρ m σ H Q1 := by
  obtain ⟨Hs, e, A, R, g⟩ := h
  refine at_bind R g fun v a e1 Hs1 H1 A1 s1 R1 r1 P1 => f v a e1 Hs1 H1 A1 R1 r1 ⟨Hs1, e1, A1, R1, P1.imp fun d e' g' w H' Hs' A' l s' R' o fr => g' w H' Hs' A' l (s1.trans s') R' o (fr.back s1)⟩
theorem len_ok {ds : List D} {u : Unit} (h : (if ds.length ≤ sline then some () else none) = some u) : ds.length ≤ sizeLine := by
  split at h
  · rename_i q; exact sline_eq ▸ q
  · cases h
theorem pv_wlst1 {es : List Expr} {ms : M (List AV)} {pos : Pos} (h : PA X es (tAs T X.K W ms)) :
    PE X (.List es pos) (tWd T X.K W 1 (do let xs ← ms; let ds ← valsM xs; let _ ← ofO (if ds.length ≤ sline then some () else none); M.ret (.list ds))) :=
  (pe_lst h).mono fun σ H Q q => by
    obtain ⟨Hs, e, A, R, g⟩ := q
    show tAs T X.K W ms σ H _
    refine at_bind R g fun vs as e1 Hs1 H1 A1 s1 R1 r1 P1 => ?_
    obtain ⟨ds, rs, P2⟩ := valsM_inv r1 (Pst.bind P1)
    obtain ⟨u, hu, P3⟩ := ofO_inv (Pst.bind P2)
    refine ⟨by rw [rs.length]; exact len_ok hu, fun q hq => ?_⟩
    have xo := Ext.laidO (o := .lst vs) R1.sub hq
    refine P3 (.ref q) _ Hs1 A1 [q] (s1.trans xo.stp) (R1.ext xo) (own1 upd_same rs) ⟨by simp, fun b hb => ?_, fun j b hb hj => ?_, fun b hb => ?_⟩
    · rw [List.mem_singleton.mp hb]
      cases z : Hs1 q with
      | none => rfl
      | some w => have := R1.sub _ _ z; rw [hq] at this; cases this
    · rw [List.mem_singleton.mp hb] at hj
      obtain ⟨o, ho, _⟩ := R1.own_some hj
      rw [hq] at ho; cases ho
    · rw [List.mem_singleton.mp hb]; exact s1.was hq
theorem pv_wnil {n : Nat} : PA X [] (tAsW T X.K W n (M.ret [])) := pa_nil.mono fun σ H Q q => by
  obtain ⟨Hs, e, A, R, g⟩ := q
  exact g [] H Hs A [] .refl R .nil .nil
theorem pv_wcons {n : Nat} {e : Expr} {es : List Expr} {m : M D} {ms : M (List D)} (h : PE X e (tWd T X.K W n m)) (hr : PA X es (tAsW T X.K W n ms)) (hs : starEach (e :: es) X.env = (false, eval e X.env) :: starEach es X.env) :
    PA X (e :: es) (tAsW T X.K W n (do let d ← m; let ds ← ms; M.ret (d :: ds))) := (pa_cons h hr hs).mono fun σ H Q q => by
  obtain ⟨Hs, e, A, R, g⟩ := q
  refine ⟨Hs, e, A, R, (Pst.bind g).imp fun d e1 g1 v H1 Hs1 A1 l s1 R1 o1 f1 => ?_⟩
  refine ⟨Hs1, e1, A1, R1, (Pst.bind (Pst.later g1 s1)).imp fun ds e2 g2 vs H2 Hs2 A2 ls s2 R2 o2 f2 => ?_⟩
  obtain ⟨o3, f3⟩ := own_keep R1.tb o1 f1 s2
  have apart : ∀ b ∈ l, b ∉ ls := fun b hb z => by
    rcases f2.new b z with ⟨j, hj⟩ | y
    · exact f1.dj j b hb hj
    · obtain ⟨u, hu, _⟩ := Own.cont n o1 b hb
      rw [hu] at y; cases y
  refine (show ∀ v H' Hs' A' l, _ → _ → _ → _ → _ from g2) (v :: vs) H2 Hs2 A2 (l ++ ls) (s1.trans s2) R2 (.cons o3 o2) ⟨?_, fun b hb => ?_, fun j b hb => ?_, fun b hb => ?_⟩
  · rw [List.nodup_append]
    exact ⟨f3.nd, f2.nd, fun x hx y hy z => apart x hx (z ▸ hy)⟩
  · rcases List.mem_append.mp hb with z | z
    · exact f3.hs b z
    · exact f2.hs b z
  · rcases List.mem_append.mp hb with z | z
    · exact f3.dj j b z
    · exact f2.dj j b z
  · rcases List.mem_append.mp hb with z | z
    · exact f3.new b z
    · exact (f2.back s1).new b z
theorem pv_wlst {n : Nat} {es : List Expr} {ms : M (List D)} {pos : Pos} (h : PA X es (tAsW T X.K W n ms)) :
    PE X (.List es pos) (tWd T X.K W (n + 1) (do let ds ← ms; let _ ← ofO (if ds.length ≤ sline then some () else none); M.ret (.list ds))) :=
  (pe_lst h).mono fun σ H Q q => by
    obtain ⟨Hs, e, A, R, g⟩ := q
    refine ⟨Hs, e, A, R, (Pst.bind g).imp fun ds e1 g1 vs H1 Hs1 A1 ls s1 R1 o1 f1 => ?_⟩
    obtain ⟨u, hu, P3⟩ := ofO_inv (Pst.bind g1)
    refine ⟨by rw [o1.length]; exact len_ok hu, fun q hq => ?_⟩
    have xo := Ext.laidO (o := .lst vs) R1.sub hq
    have nq : q ∉ ls := fun z => by
      obtain ⟨o, ho, _⟩ := o1.mem_of (Z := fun a => ∃ o, H1 a = some o ∧ cont o) (fun v d l h => Own.cont n h) q z
      rw [hq] at ho; cases ho
    refine P3 (.ref q) _ Hs1 A1 (q :: ls) (s1.trans xo.stp) (R1.ext xo) (.inl ⟨q, vs, ds, ls, rfl, rfl, upd_same, o1.upd nq, rfl⟩) ⟨List.nodup_cons.mpr ⟨nq, f1.nd⟩, fun b hb => ?_, fun j b hb hj => ?_, fun b hb => ?_⟩
    · rcases List.mem_cons.mp hb with z | z
      · rw [z]
        cases y : Hs1 q with
        | none => rfl
        | some w => have := R1.sub _ _ y; rw [hq] at this; cases this
      · exact f1.hs b z
    · rcases List.mem_cons.mp hb with z | z
      · rw [z] at hj
        obtain ⟨o, ho, _⟩ := R1.own_some hj
        rw [hq] at ho; cases ho
      · exact f1.dj j b z hj
    · rcases List.mem_cons.mp hb with z | z
      · rw [z]; exact s1.was hq
      · exact f1.new b z
theorem tWd_call {n : Nat} {m : M (Nat × D)} {σ : L2.St} {H : Hp} {Q : VK} (h : tWd T K W n (do let p ← m; ownOf n p) σ H Q) : tW T K W m σ H Q := by
  obtain ⟨Hs, e, A, R, g⟩ := h
  refine ⟨Hs, e, A, R, (Pst.bind g).imp fun p e1 g1 v H1 Hs1 A1 l s1 R1 o1 f1 => ?_⟩
  unfold ownOf at g1
  split at g1
  · rename_i q
    subst q
    exact g1 v H1 Hs1 A1 l s1 R1 o1 f1
  · exact g1.elim
theorem tWd_one {m : M D} {σ : L2.St} {H : Hp} {Q : VK} (h : tWd T K W 1 m σ H Q) : tW T K W (do let d ← m; M.ret (1, d)) σ H Q := tWd_of h
theorem pv_wife {n : Nat} {c a b : Expr} {mc : M Bool} {ma mb : M D} {pos : Pos} (hc : PT X c (tT T X.K W mc)) (ha : PE X a (tWd T X.K W n ma)) (hb : PE X b (tWd T X.K W n mb)) :
    PE X (.IfExp c a b pos) (tWd T X.K W n (do let t ← mc; if t then ma else mb)) :=
  (pe_ifExp hc ha hb).mono fun σ H Q q => by
    obtain ⟨Hs, e, A, R, g⟩ := q
    show tT T X.K W mc σ H _
    refine at_bind R g fun v t e1 Hs1 H1 A1 s1 R1 r1 P1 => ?_
    have r1 : v = t := r1
    subst r1
    cases v with
    | true => exact iteT ⟨Hs1, e1, A1, R1, P1.imp fun d e' g' w H' Hs' A' l s' R' o fr => g' w H' Hs' A' l (s1.trans s') R' o (fr.back s1)⟩
    | false => exact iteF ⟨Hs1, e1, A1, R1, P1.imp fun d e' g' w H' Hs' A' l s' R' o fr => g' w H' Hs' A' l (s1.trans s') R' o (fr.back s1)⟩

/-! ### reverse, clear -/
theorem RpAll_of_own0 {Hs H : Hp} {vs : List V} {ds : List D} {ls : List Addr} (h : OwnAll (Own K Hs H 0) vs ds ls) : RpAll K Hs vs ds ∧ ls = [] := ownAll0 h
theorem mc_at {i : Nat} {D : Ends} {σ : L2.St} {H : Hp} (h : tS T K W p (mcM i .reverse) D σ H) : tDrop (tBM0 K "list" rReverse (fun σ H Q => ∃ v, σ[i]? = some (some v) ∧ Q v H)) D σ H := by
  obtain ⟨Hs, e, A, R, g⟩ := h
  obtain ⟨w, xs, hi, g1⟩ := rdL_inv (Pst.bind g)
  obtain ⟨v, hv, ty⟩ := R.own_lst hi
  obtain ⟨w', c, d', hi', hf, g2⟩ := updO_inv (Pst.bind g1)
  rw [hi] at hi'
  cases hi'
  unfold mmF at hf
  simp only at hf
  split at hf
  · rename_i q
    subst q
    cases hf
    obtain ⟨m', a, vs, ls, em, h1, h2, h3, h4, h5, h6⟩ := R.ow_list hi (by omega)
    have em : m' = 0 := by omega
    subst em
    obtain ⟨r0, rfl⟩ := ownAll0 h3
    rw [hv] at h1
    cases h1
    obtain ⟨R2, s2⟩ := R.reroot (ls' := []) (d' := .list xs.reverse) (u := .lst vs.reverse) hi hv (by rw [h4]; simp) (own1 upd_same r0.reverse) (by simp) (fun b hb => nomatch hb) (fun j hj b hb => nomatch hb) .refl fun b hb => nomatch hb
    exact ⟨_, hv, ty, a, vs, rfl, rfl, h2, g2 σ _ Hs _ s2 R2 .refl⟩
  · cases hf
theorem mc_clear_at {i : Nat} {D : Ends} {σ : L2.St} {H : Hp} (h : tS T K W p (mcM i .clear) D σ H) : tDrop (tBM0 K "list" rClear (fun σ H Q => ∃ v, σ[i]? = some (some v) ∧ Q v H)) D σ H := by
  obtain ⟨Hs, e, A, R, g⟩ := h
  obtain ⟨w, xs, hi, g1⟩ := rdL_inv (Pst.bind g)
  obtain ⟨v, hv, ty⟩ := R.own_lst hi
  obtain ⟨w', c, d', hi', hf, g2⟩ := updO_inv (Pst.bind g1)
  rw [hi] at hi'
  cases hi'
  unfold mmF at hf
  simp only at hf
  split at hf
  · rename_i q
    subst q
    cases hf
    obtain ⟨m', a, vs, ls, em, h1, h2, h3, h4, h5, h6⟩ := R.ow_list hi (by omega)
    have em : m' = 0 := by omega
    subst em
    obtain ⟨r0, rfl⟩ := ownAll0 h3
    rw [hv] at h1
    cases h1
    obtain ⟨R2, s2⟩ := R.reroot (ls' := []) (d' := .list []) (u := .lst []) hi hv (by rw [h4]; simp) (own1 upd_same .nil) (by simp) (fun b hb => nomatch hb) (fun j hj b hb => nomatch hb) .refl fun b hb => nomatch hb
    exact ⟨_, hv, ty, a, vs, rfl, rfl, h2, g2 σ _ Hs _ s2 R2 .refl⟩
  · cases hf
/-- x.extend(new list) -/
theorem ext_at {te : TE} {m : M D} {i : Nat} (ht : ∀ σ H Q, tWd T K W 1 m σ H Q → te σ H Q) {D : Ends} {σ : L2.St} {H : Hp} (h : tS T K W p (extM i m) D σ H) :
    tDrop (tBM K "list" rExtend (fun σ H Q => ∃ v, σ[i]? = some (some v) ∧ Q v H) (fun σ H Q => te σ H fun v H' => Q [v] H')) D σ H := by
  obtain ⟨Hs, e, A, R, g⟩ := h
  obtain ⟨w, xs, hi, g1⟩ := rdL_inv (Pst.bind g)
  obtain ⟨v, hv, ty⟩ := R.own_lst hi
  refine ⟨v, hv, ty, ht σ H _ ⟨Hs, e, A, R, (Pst.bind g1).imp fun d e' g' u H' Hs' A' l s' R' o fr => ?_⟩⟩
  obtain ⟨w', c, d', hi', hf, g2⟩ := updO_inv (Pst.bind (Pst.later g' s'))
  unfold extF at hf
  split at hf
  · rename_i xs' ys
    split at hf
    · rename_i q
      obtain ⟨q1, q2⟩ := q
      subst q1
      cases hf
      obtain ⟨m', a, vs, ls, em, h1, h2, h3, h4, h5, h6⟩ := R'.ow_list hi' (by omega)
      have em : m' = 0 := by omega
      subst em
      obtain ⟨r0, rfl⟩ := ownAll0 h3
      rw [hv] at h1
      cases h1
      rcases o with ⟨b, zs, ds, ls, rfl, e1, e2, e3, e4⟩ | ⟨b, kvs, ds, ls, rfl, e1, e2, e3, e4⟩
      · cases e1
        obtain ⟨r1, rfl⟩ := ownAll0 e3
        obtain ⟨R2, s2⟩ := R'.reroot (ls' := []) (d' := .list (xs' ++ ys)) (u := .lst (vs ++ zs)) hi' hv (by rw [h4]; simp) (own1 upd_same (r0.append r1)) (by simp) (fun b hb => nomatch hb) (fun j hj b hb => nomatch hb) s' fun b hb => nomatch hb
        exact ⟨a, b, vs, zs, rfl, rfl, h2, e2, by rw [r0.length, r1.length]; exact sline_eq ▸ q2, g2 σ _ Hs' _ s2 R2 .refl⟩
      · cases e1
    · cases hf
  · cases hf
end
end Pv

/-! PvS13: the text's defs. -/
namespace Pv
open PySem PySem.Spec PyProof.Rows L2
variable [TabC]

/-- the parameters that are handed in to be changed -/
def ownP (ps : List Nat) (i : Nat) : Prop := ∃ m, ps[i]? = some (m + 1)
/-- the rule for a def, its room's guards known -/
theorem fnG_of {P : Program} {w : World} {K : PySem.W.Frag} {mg : Str → Option Value} {base : Heap} {k : Nat} {f : Addr} {name qual : Str} {params : Arguments} {body : List Stmt} {scope : Scope} {dV kV doc pm cdv ct oc : Value} {an od : Option Addr}
    {osl : Array (Option Value)} {N ps : List Str} {sp : Sp} (lk : K.lookup f = some ⟨oc, od, .func (PySem.W.fnOf name qual params body scope dV kV doc pm an cdv ct), osl⟩) (hcd : PySem.W.codeIn K cdv qual = true) (S : FnScope N ps scope)
    (len : ∀ vs H Q E, sp vs H Q E → vs.length = ps.length)
    (hbody : ∀ (A : Around) (outer : List Env) (s : Shared) (H : Hp) (vs : List V) (Q : VK) (E : XK), Room k (A.deeper (envOfC qual scope s.heap.objs.size f cdv)) → A.guards = some [] → sp vs H Q E →
      ∃ t, PSs (cxOf (L2.CX P w) P w K mg base N qual scope f cdv A outer s H E) body t ∧ t { nx := fun _ H' => Q .non H', rt := Q } (start N vs) H) :
    FnG P w K mg base (k + 1) f (PySem.W.fnOf name qual params body scope dV kV doc pm an cdv ct) ps sp := by
  refine ⟨len, fun A outer s H args us vs Q E hr hgd e0 hb r hsp => ?_⟩
  have hl := len _ _ _ _ hsp
  have KX : K.In s.heap := e0.mod.kin.keeps fun b o e => (e0.bs b o e).1
  have lim : s.heap.NoLimit := e0.mod.nolimit.keeps fun b o e => (e0.bs b o e).1
  have hkind : ∀ y ∈ ps.zip us, scope.names.lookup y.1 = some .local ∨ (scope.names.lookup y.1 = some .cell ∧ ((cellsFrom (s.heap.objs.size + 1) scope.names []).lookup y.1).isSome = true) := fun ⟨n, v⟩ hy => by
    rcases S.par n (List.of_mem_zip hy).1 with q | q
    · exact .inl q
    · exact .inr ⟨q, PySem.W.cellsFrom_some _ _ _ (.inl q)⟩
  refine codeAny_call_function hr.depth (KX _ _ lk) rfl S.co S.gen rfl (PySem.W.codeRec_of KX hcd) (hb _ _ _ _ ?_)
  refine wpAny_newFunctionEnv_cells S.kind hkind fun env he s1 x => ?_
  subst he
  refine ⟨lim.keeps x.toInCall.keep, codeAny_func ?_⟩
  obtain ⟨t, ht, hq⟩ := hbody A outer s H vs Q E (hr.deeper _) hgd hsp
  have I : Inv (cxOf (L2.CX P w) P w K mg base N qual scope f cdv A outer s H E) [] (start N vs) H s1 := inv_start S hr.hd e0 hl r x
  refine wpAny_mono (ht.run [] s1 (start N vs) H _ I hq) (fun fl s' hs => ?_) fun e s' hs => hs
  have fin : ∀ {σ' : L2.St} {H' : Hp} {v : V} {u : Value}, Inv (cxOf (L2.CX P w) P w K mg base N qual scope f cdv A outer s H E) [] σ' H' s' → RelV v u → Q v H' → CE outer P w H s Q u s' :=
    fun {σ' H' v u} J rv q => ⟨v, H', J.os, J.bare, J.base, J.hok, rv, q⟩
  cases fl with
  | ret u =>
    obtain ⟨v, σ', H', J, rv, q⟩ := hs
    exact fin J rv q
  | next =>
    obtain ⟨σ', H', J, q⟩ := hs
    exact fin (v := V.non) (u := Value.none) J rfl q
  | brk =>
    obtain ⟨_, _, _, q⟩ := hs
    exact False.elim q
  | cont =>
    obtain ⟨_, _, _, q⟩ := hs
    exact False.elim q

/-! ### a def's slots at its entry and end -/
theorem modeOk_len : ∀ {ms : List Nat} {e : En}, modeOk ms e = true → e.length = ms.length
  | [], [], _ => rfl
  | 0 :: ms, .sh _ :: e, h => by simp [modeOk_len (ms := ms) (e := e) h]
  | (m + 1) :: ms, .ow w _ :: e, h => by
    simp only [modeOk, Bool.and_eq_true] at h
    simp [modeOk_len h.2]
  | [], _ :: _, h => by simp [modeOk] at h
  | _ :: _, [], h => by simp [modeOk] at h
  | 0 :: _, .no :: _, h => by simp [modeOk] at h
  | 0 :: _, .ow _ _ :: _, h => by simp [modeOk] at h
  | (_ + 1) :: _, .no :: _, h => by simp [modeOk] at h
  | (_ + 1) :: _, .sh _ :: _, h => by simp [modeOk] at h
theorem finO_get : ∀ {ms : List Nat} {ea e o : En}, finO ms ea e = some o → o.length = ms.length ∧ ∀ (j : Nat) s, o[j]? = some s → (ms[j]? = some 0 ∧ ea[j]? = some s) ∨ ∃ m d, ms[j]? = some (m + 1) ∧ s = .ow (m + 1) d ∧ e[j]? = some s
  | [], [], _, o, h => by cases h; exact ⟨rfl, fun j s h => by simp at h⟩
  | [], _ :: _, _, o, h => by simp [finO] at h
  | 0 :: ms, s0 :: ea, t :: e, o, h => by
    simp only [finO] at h
    cases q : finO ms ea e with
    | none => rw [q] at h; cases h
    | some o' =>
      rw [q] at h
      cases h
      obtain ⟨h1, h2⟩ := finO_get q
      refine ⟨by simp [h1], fun j s hj => ?_⟩
      cases j with
      | zero => exact .inl ⟨rfl, by simpa using hj⟩
      | succ j => exact h2 j s (by simpa using hj)
  | (m + 1) :: ms, s0 :: ea, .ow w d :: e, o, h => by
    simp only [finO] at h
    split at h
    · rename_i hw
      subst hw
      cases q : finO ms ea e with
      | none => rw [q] at h; cases h
      | some o' =>
        rw [q] at h
        cases h
        obtain ⟨h1, h2⟩ := finO_get q
        refine ⟨by simp [h1], fun j s hj => ?_⟩
        cases j with
        | zero => simp at hj; subst hj; exact .inr ⟨m, d, rfl, rfl, rfl⟩
        | succ j => exact h2 j s (by simpa using hj)
    · cases h
  | 0 :: _, [], _, _, h => by simp [finO] at h
  | 0 :: _, _ :: _, [], _, h => by simp [finO] at h
  | (_ + 1) :: _, [], _, _, h => by simp [finO] at h
  | (_ + 1) :: _, _ :: _, [], _, h => by simp [finO] at h
  | (_ + 1) :: _, _ :: _, .no :: _, _, h => by simp [finO] at h
  | (_ + 1) :: _, _ :: _, .sh _ :: _, _, h => by simp [finO] at h
theorem dropO_get : ∀ {ms : List Nat} {ea : En}, modeOk ms ea = true → (dropO ms ea).length = ea.length ∧ ∀ (j : Nat) s, (dropO ms ea)[j]? = some s → s = .no ∨ ∃ d, s = .sh d ∧ ea[j]? = some s
  | [], [], _ => ⟨rfl, fun j s h => by simp [dropO] at h⟩
  | 0 :: ms, .sh d :: e, h => by
    obtain ⟨h1, h2⟩ := dropO_get (ms := ms) (ea := e) h
    refine ⟨by simp [dropO, h1], fun j s hj => ?_⟩
    cases j with
    | zero => simp [dropO] at hj; subst hj; exact .inr ⟨d, rfl, rfl⟩
    | succ j => exact h2 j s (by simpa [dropO] using hj)
  | (m + 1) :: ms, .ow w _ :: e, h => by
    simp only [modeOk, Bool.and_eq_true] at h
    obtain ⟨h1, h2⟩ := dropO_get h.2
    refine ⟨by simp [dropO, h1], fun j s hj => ?_⟩
    cases j with
    | zero => simp [dropO] at hj; subst hj; exact .inl rfl
    | succ j => exact h2 j s (by simpa [dropO] using hj)
  | [], _ :: _, h => by simp [modeOk] at h
  | _ :: _, [], h => by simp [modeOk] at h
  | 0 :: _, .no :: _, h => by simp [modeOk] at h
  | 0 :: _, .ow _ _ :: _, h => by simp [modeOk] at h
  | (_ + 1) :: _, .no :: _, h => by simp [modeOk] at h
  | (_ + 1) :: _, .sh _ :: _, h => by simp [modeOk] at h
section
variable {K : PySem.W.Frag} {Hs H Hs' H' : Hp} {ea e o : En} {A A' : Nat → List Addr} {vs : List V} {N : List Str} {ms : List Nat} {σ' : L2.St}
/-- at the entry -/
theorem Rel.entry (R : Rel K (vs.map some) Hs H ea A) (hn : vs.length ≤ N.length) : Rel K (start N vs) Hs H (ea ++ List.replicate (N.length - vs.length) .no) A := by
  have hl : vs.length = ea.length := by have := R.len; simpa using this
  have key : ∀ (i : Nat) s, (ea ++ List.replicate (N.length - vs.length) Sl.no)[i]? = some s → s ≠ .no → ea[i]? = some s := fun i s h n => by
    by_cases hi : i < ea.length
    · rwa [List.getElem?_append_left hi] at h
    · rw [List.getElem?_append_right (by omega), List.getElem?_replicate] at h
      split at h
      · cases h; exact absurd rfl n
      · cases h
  have st : ∀ (i : Nat) v, (vs.map some)[i]? = some (some v) → (start N vs)[i]? = some (some v) := fun i v h => by
    unfold L2.start
    rw [List.getElem?_append_left (List.getElem?_eq_some_iff.mp h).1]
    exact h
  refine ⟨by simp [L2.start, hl], R.sub, fun i d h => ?_, fun i m d h => ?_, R.nd, R.dj, R.fr, fun i h => ?_, R.tb, R.nt⟩
  · obtain ⟨v, a, b⟩ := R.sh i d (key i _ h (by simp))
    exact ⟨v, st i v a, b⟩
  · obtain ⟨v, a, b⟩ := R.ow i m d (key i _ h (by simp))
    exact ⟨v, st i v a, b⟩
  · refine R.em i fun m d z => h m d ?_
    rw [List.getElem?_append_left (List.getElem?_eq_some_iff.mp z).1]
    exact z
open Classical in
/-- at the end -/
theorem Rel.fin (R : Rel K (vs.map some) Hs H ea A) (mo : modeOk ms ea = true) (R' : Rel K σ' Hs' H' e A') (s : Stp A Hs H A' Hs' H') (kp : Kp (ownP ms) (start N vs) σ') (hf : finO ms ea e = some o) :
    ∃ A2, Rel K (vs.map some) Hs' H' o A2 ∧ Stp A Hs H A2 Hs' H' ∧ ∀ j b, b ∈ A2 j → b ∈ A' j := by
  have hl : vs.length = ea.length := by have := R.len; simpa using this
  have ml := modeOk_len mo
  obtain ⟨ol, get⟩ := finO_get hf
  have sub : ∀ (j : Nat) b, b ∈ (if ownP ms j then A' j else []) → b ∈ A' j ∧ ownP ms j := fun j b h => by
    split at h
    · rename_i q; exact ⟨h, q⟩
    · cases h
  refine ⟨fun j => if ownP ms j then A' j else [], ⟨by rw [List.length_map, ol]; omega, R'.sub, fun j d h => ?_, fun j m d h => ?_, fun j => ?_, fun j j' b h h' => R'.dj j j' b (sub j b h).1 (sub j' b h').1, fun j b h => R'.fr j b (sub j b h).1, fun j h => ?_, R'.tb, R'.nt⟩,
    ⟨s.hs, s.fr, fun j b h => s.new j b (sub j b h).1, s.shn, s.tb⟩, fun j b h => (sub j b h).1⟩
  · rcases get j _ h with ⟨h1, h2⟩ | ⟨m, d', h1, h2, h3⟩
    · obtain ⟨v, a, b⟩ := R.sh j d h2
      exact ⟨v, a, b.up s.hs⟩
    · cases h2
  · rcases get j _ h with ⟨h1, h2⟩ | ⟨m', d', h1, h2, h3⟩
    · exfalso
      -- a parameter that is not to be changed is a shared one
      have : ∀ {ms : List Nat} {ea : En} {j m : Nat} {d : D}, modeOk ms ea = true → ms[j]? = some 0 → ea[j]? = some (.ow m d) → False := fun {ms} => by
        induction ms with
        | nil => intro ea j m d _ h1 _; simp at h1
        | cons q ms ih =>
          intro ea j m d h h1 h2
          cases ea with
          | nil => simp at h2
          | cons t ea =>
            cases j with
            | zero =>
              simp at h1 h2
              subst h1 h2
              simp [modeOk] at h
            | succ j =>
              refine ih (ea := ea) (j := j) (m := m) (d := d) ?_ (by simpa using h1) (by simpa using h2)
              cases q with
              | zero => cases t <;> simp [modeOk] at h <;> exact h
              | succ q =>
                cases t <;> simp [modeOk] at h
                exact h.2
      exact this mo h1 h2
    · cases h2
      obtain ⟨v, a, b⟩ := R'.ow j _ d h3
      have hj : j < vs.length := by
        have := (List.getElem?_eq_some_iff.mp h1).1
        omega
      have k := kp.2 j ⟨m', h1⟩
      rw [a] at k
      refine ⟨v, ?_, ?_⟩
      · unfold L2.start at k
        rw [List.getElem?_append_left (by simpa using hj)] at k
        exact k.symm
      · simp only [if_pos (show ownP ms j from ⟨m', h1⟩)]
        exact b
  · show (if ownP ms j then A' j else []).Nodup
    split
    · exact R'.nd j
    · exact List.nodup_nil
  · show (if ownP ms j then A' j else []) = []
    split
    · rename_i q
      obtain ⟨m, hm⟩ := q
      exfalso
      have hj : j < o.length := by rw [ol]; exact (List.getElem?_eq_some_iff.mp hm).1
      rcases get j _ (List.getElem?_eq_getElem hj) with ⟨h1, h2⟩ | ⟨m', d', h1, h2, h3⟩
      · rw [hm] at h1; cases h1
      · exact h (m' + 1) d' (by rw [← h2]; exact List.getElem?_eq_getElem hj)
    · rfl
theorem Rel.lost (R : Rel K (vs.map some) Hs H ea A) (mo : modeOk ms ea = true) (s : Stp A Hs H A' Hs' H') (sub : Same Hs' H') (tb : LamX.Tabs TabC.T H') (nt : ∀ a, isTab a → Hs' a = none) :
    Rel K (vs.map some) Hs' H' (dropO ms ea) (fun _ => []) ∧ Stp A Hs H (fun _ => []) Hs' H' := by
  obtain ⟨dl, get⟩ := dropO_get mo
  refine ⟨⟨by rw [dl]; exact R.len, sub, fun j d h => ?_, fun j m d h => ?_, fun j => List.nodup_nil, fun j j' b h => (nomatch h), fun j b h => (nomatch h), fun j h => rfl, tb, nt⟩, s.hs, s.fr, fun j b h => (nomatch h), s.shn, s.tb⟩
  · rcases get j _ h with h1 | ⟨d', h1, h2⟩
    · cases h1
    · cases h1
      obtain ⟨v, a, b⟩ := R.sh j d h2
      exact ⟨v, a, b.up s.hs⟩
  · rcases get j _ h with h1 | ⟨d', h1, h2⟩
    · cases h1
    · cases h1
end

theorem Fre.less {A A' A2 : Nat → List Addr} {H Hs' : Hp} {l : List Addr} (f : Fre A H A' Hs' l) (h : ∀ j b, b ∈ A2 j → b ∈ A' j) : Fre A H A2 Hs' l := ⟨f.nd, f.hs, fun j b hb z => f.dj j b hb (h j b z), f.new⟩
theorem spF_len {T : Txt} {K : PySem.W.Frag} {P : Pr} {k f : Nat} {F : Fd} {vs : List V} {H : Hp} {Q : VK} {E : XK} (hF : P.F[f]? = some F) (h : spF T K P k f vs H Q E) : vs.length = F.ps.length := by
  obtain ⟨Hs, ea, A, R, h⟩ := h
  have hl : vs.length = ea.length := by have := R.len; simpa using this
  cases k with
  | zero => exact False.elim h
  | succ k =>
    by_cases mo : modeOk F.ps ea = true
    · rw [hl]; exact modeOk_len mo
    · have er : run P (k + 1) f ea = .bad := by
        show (match P.F[f]? with | some F => _ | none => _) = _
        rw [hF]
        exact if_neg mo
      rw [er] at h
      exact h.elim
/-- a def's body, at its entry -/
theorem spF_body {T : Txt} {K : PySem.W.Frag} {P : Pr} {k f : Nat} {F : Fd} {N : List Str} {vs : List V} {H : Hp} {Q : VK} {E : XK} (hF : P.F[f]? = some F) (hn : F.n = N.length) (hpl : F.ps.length ≤ N.length) (h : spF T K P (k + 1) f vs H Q E) :
    tS T.tx K (fun cls d _ H' => E cls d H') (ownP F.ps) (exs (cnOf P k) F.body) { nx := fun _ H' => Q .non H', rt := Q } (L2.start N vs) H := by
  have hlen := spF_len hF h
  obtain ⟨Hs, ea, A, R, h⟩ := h
  have hl : vs.length = ea.length := by have := R.len; simpa using this
  have er : run P (k + 1) f ea = if modeOk F.ps ea = true then finish F.ps ea (exs ⟨P.G, P.W, run P k⟩ F.body (ea ++ List.replicate (F.n - F.ps.length) .no)) else .bad := by
    show (match P.F[f]? with | some F => _ | none => _) = _
    rw [hF]
  rw [er] at h
  by_cases mo : modeOk F.ps ea = true
  · rw [if_pos mo] at h
    have R0 := R.entry (N := N) (by omega)
    rw [← hn, hlen] at R0
    refine ⟨Hs, _, A, R0, ?_⟩
    cases q : exs (cnOf P k) F.body (ea ++ List.replicate (F.n - F.ps.length) .no) with
    | bad => rw [q] at h; exact h.elim
    | ex x e' =>
      rw [q] at h
      intro σ' H' Hs' A' cls dx st R' xr
      obtain ⟨R2, s2⟩ := R.lost mo st R'.sub R'.tb R'.nt
      exact h H' Hs' _ cls dx s2 R2 xr
    | ok fl e' =>
      rw [q] at h
      intro σ' H' Hs' A' st R' kp
      have aux : ∀ (m : Nat) (d : D), (match finO F.ps ea e' with | some o => CR.ok m d o | none => CR.bad) = finish F.ps ea (.ok fl e') → ∀ v l, Own K Hs' H' m v d l → Fre A H A' Hs' l → Q v H' := fun m d hq v l o fr => by
        rw [← hq] at h
        cases qo : finO F.ps ea e' with
        | none => rw [qo] at h; exact h.elim
        | some o' =>
          rw [qo] at h
          obtain ⟨A2, R2, s2, sub⟩ := R.fin mo R' st kp qo
          exact h v H' Hs' A2 l s2 R2 o (fr.less sub)
      cases fl with
      | nx => exact aux 0 .none rfl .non [] ⟨.non, rfl⟩ .nil
      | bk => exact h.elim
      | ct => exact h.elim
      | rt m d => exact fun v l o fr => aux m d rfl v l o fr
  · rw [if_neg mo] at h
    exact h.elim

/-! ### all defs -/
/-- how a body is read: what the checker has to show -/
def BodyOk (T : Txt) (P : Pr) (prog : Program) (w : World) (K : PySem.W.Frag) (mg : Str → Option Value) (base : Heap) (N : List Str) (sc : Scope) (F : Fd) (body : List Stmt) (lm : Bool) : Prop :=
  ∀ (k : Nat) (W : WX) (X : Cx), X.prog = prog → X.w = w → X.K = K → X.mg = mg → X.base = base → Cz T P k N sc W X → (∀ x, X.fn x = true) → (lm = true → LamT X) → PassesOwn (model X.prog X.w) X.A X.env X.xe → PSs X body (tS T.tx X.K W (ownP F.ps) (exs (cnOf P k) F.body))
/-- a def's table of lambdas -/
def LamC (mg : Str → Option Value) (base : Heap) (cdv : Value) (q : Str) : Prop := ∃ c Pt, cdv = .ref c ∧ LamX.TabB base mg c Pt ∧ (Pt, (q ++ ".<locals>.") ++ "<lambda>") ∈ TabC.T ∧ ∀ p ∈ TabC.T, p.1 = Pt → p.2 = (q ++ ".<locals>.") ++ "<lambda>"
/-- a def of the text -/
structure DefOk (T : Txt) (P : Pr) (prog : Program) (w : World) (K : PySem.W.Frag) (mg : Str → Option Value) (base : Heap) (f : Nat) (x : Str) : Prop where
  ex : ∃ (a : Addr) (name qual : Str) (params : Arguments) (body : List Stmt) (scope : Scope) (dV kV doc pm cdv ct oc : Value) (an od : Option Addr) (osl : Array (Option Value)) (N ps : List Str) (F : Fd) (lm : Bool),
    mg x = some (.ref a) ∧ PySem.W.keepIn K (.ref a) = true ∧ K.lookup a = some ⟨oc, od, .func (PySem.W.fnOf name qual params body scope dV kV doc pm an cdv ct), osl⟩ ∧ PySem.W.codeIn K cdv qual = true ∧ FnScope N ps scope ∧
    P.F[f]? = some F ∧ F.n = N.length ∧ F.ps.length = ps.length ∧ BodyOk T P prog w K mg base N scope F body lm ∧ (lm = true → LamC mg base cdv qual) ∧
    ∀ fm ∈ T.fms, fm.f = f → ∀ (s : Shared) (us ws : List Value), K.In s.heap → us.length = fm.np → ws.length = fm.ks.length → ∃ zs, BindsTo s (PySem.W.fnOf name qual params body scope dV kV doc pm an cdv ct) ⟨us, fm.ks.zip ws⟩ (ps.zip zs) ∧ SrcV fm.src (us ++ ws) zs
structure Stat (T : Txt) (P : Pr) (prog : Program) (w : World) (K : PySem.W.Frag) (mg : Str → Option Value) (base : Heap) : Prop where
  nb : ∀ x ∈ T.nb, mg x = none
  gl : ∀ (g : Nat) x d, T.gl[g]? = some x → P.G[g]? = some d → (∀ kvs, d ≠ .dict kvs) → ∃ v u, mg x = some u ∧ RelV v u ∧ ∀ H, Rp K H v d
  kd : ∀ (g : Nat) x kvs, T.gl[g]? = some x → P.G[g]? = some (.dict kvs) → ∃ d es n, mg x = some (.ref d) ∧ KDict K w d es n ∧
    ∀ z, match kfind z kvs with
      | none => PySem.W.nsIn K d z = some none
      | some r => ∃ u v, PySem.W.nsIn K d z = some (some u) ∧ RelV v u ∧ ∀ H, Rp K H v r
  df : ∀ (f : Nat) x, T.fn[f]? = some x → DefOk T P prog w K mg base f x
  sys : SysK K
theorem facts_all {T : Txt} {P : Pr} {prog : Program} {w : World} {K : PySem.W.Frag} {mg : Str → Option Value} {base : Heap} (S : Stat T P prog w K mg base) : ∀ k, Facts T P prog w K mg base k
  | 0 => ⟨S.nb, S.gl, S.kd, fun f x hx => by
    obtain ⟨a, name, qual, params, body, scope, dV, kV, doc, pm, cdv, ct, oc, an, od, osl, N, ps, F, lm, h1, h2, h3, h4, h5, h6, h7, h8, h9, hl, h10⟩ := (S.df f x hx).ex
    have no : ∀ vs H Q E, spF T K P 0 f vs H Q E → False := fun vs H Q E ⟨Hs, ea, A, R, h⟩ => h
    exact ⟨a, _, ps, h1, h2, ⟨fun vs H Q E h => (no _ _ _ _ h).elim, fun A outer s H args us vs Q E _ _ _ _ _ h => (no _ _ _ _ h).elim⟩, h10⟩, S.sys⟩
  | k + 1 => ⟨S.nb, S.gl, S.kd, fun f x hx => by
    obtain ⟨a, name, qual, params, body, scope, dV, kV, doc, pm, cdv, ct, oc, an, od, osl, N, ps, F, lm, h1, h2, h3, h4, h5, h6, h7, h8, h9, hl, h10⟩ := (S.df f x hx).ex
    refine ⟨a, _, ps, h1, h2, fnG_of h3 h4 h5 (fun vs H Q E h => (spF_len h6 h).trans h8) (fun A outer s H vs Q E hr hg hsp => ?_), h10⟩
    have hpl : ps.length ≤ N.length := by have := congrArg List.length h5.pre; rw [List.length_take] at this; omega
    refine ⟨_, h9 k (fun cls d _ H' => E cls d H') _ rfl rfl rfl rfl rfl ⟨rfl, h5.nd, rfl, rfl, takes_of rfl rfl rfl rfl, hr, hg, facts_all S k⟩ (fun _ => rfl) (fun e => let ⟨c, Pt, e1, tb, m, u⟩ := hl e; ⟨c, Pt, e1, tb, m, u⟩) (passes_of rfl), spF_body h6 h7 (by omega) hsp⟩, S.sys⟩
end Pv

/-! PvS14: the checker of expressions, its soundness. -/
namespace Pv
open PySem PySem.Spec PyProof.Rows L2

/-- a block's scope, and which of its cells are its own -/
structure Ctx where
  sc : Scope
  fc : List Str
  lm : Bool
/-! ### a key's lambda -/
def kyB (a : Str) : Ky → Expr → Bool
  | .at0, e => (match e with
    | .Subscript (.Name x _) (.Constant (.int i) _ _) _ => decide (x = a) && decide (i = 0)
    | _ => false)
  | .nw, e => (match e with
    | .Tuple [.Subscript (.Name x _) (.Constant (.int i) _ _) _, .BinOp (.Constant (.int z) _ _) op (.Subscript (.Name y _) (.Constant (.int j) _ _) _) _] _ _ =>
      decide (x = a) && decide (i = 0) && decide (z = 0) && decide (op = .Sub) && decide (y = a) && decide (j = 1)
    | _ => false)
/-- a lambda of one parameter -/
def lamB (a : Str) (ps : Arguments) (sc : Scope) : Bool := plainName a && (match ps with
  | ⟨[], [⟨b, none, _⟩], none, [], [], none, []⟩ => decide (b = a)
  | _ => false) && ((match sc.kind with | .function => true | _ => false) && (!sc.isCoroutine && (!sc.isGenerator && (match sc.names with
  | [(b, .local)] => decide (b = a)
  | _ => false))))
def nmOk (N : List Str) (c : Ctx) (i : Nat) (x : Str) : Bool := decide (N[i]? = some x) && isVis c.sc x && plainName x
def tgOk (N : List Str) (c : Ctx) (q : Nat → Bool) (i : Nat) (x : Str) : Bool := decide (N[i]? = some x) && q i && (match c.sc.names.lookup x with
  | some .local => true
  | some .cell => c.fc.contains x
  | _ => false)
def litOk : D → Const → Bool
  | .none, .none => true
  | .bool b, .bool b' => b == b'
  | .int i, .int j => decide (i = j)
  | .str x, .str y => decide (x = y)
  | _, _ => false
def noStar : Expr → Bool
  | .Starred .. => false
  | _ => true
def noSl : Expr → Bool
  | .Slice .. => false
  | _ => true
def isDct : Option D → Bool
  | some (.dict _) => true
  | _ => false
def glOk (T : Txt) (c : Ctx) (g : Nat) (x : Str) : Bool := decide (T.gl[g]? = some x) && isGl c.sc x && plainName x
def kwN : List Keyword → List Str → Bool
  | [], [] => true
  | ⟨some n, _, _⟩ :: r, m :: ms => decide (n = m) && kwN r ms
  | _, _ => false
def noCall : Expr → Bool
  | .Call _ (_ :: _) _ _ => true
  | .Call .. => false
  | _ => true
def noSet : Expr → Bool
  | .Set .. => false
  | _ => true
def alen : Exs → Nat
  | .nil => 0
  | .cons _ as => alen as + 1
def dEq : D → D → Bool
  | .none, .none => true
  | .bool b, .bool b' => b == b'
  | .int i, .int j => decide (i = j)
  | .str x, .str y => decide (x = y)
  | _, _ => false
theorem dEq_eq {a b : D} (h : dEq a b = true) : a = b := by
  cases a <;> cases b <;> simp_all [dEq]
def srEq : List Sr → List Sr → Bool
  | [], [] => true
  | .ar i :: r, .ar j :: s => decide (i = j) && srEq r s
  | .df a :: r, .df b :: s => dEq a b && srEq r s
  | _, _ => false
theorem srEq_eq : ∀ {a b : List Sr}, srEq a b = true → a = b
  | [], [], _ => rfl
  | .ar i :: r, .ar j :: s, h => by
    simp only [srEq, Bool.and_eq_true, decide_eq_true_eq] at h
    rw [h.1, srEq_eq h.2]
  | .df a :: r, .df b :: s, h => by
    simp only [srEq, Bool.and_eq_true] at h
    rw [dEq_eq h.1, srEq_eq h.2]
  | [], _ :: _, h => by simp [srEq] at h
  | _ :: _, [], h => by simp [srEq] at h
  | .ar _ :: _, .df _ :: _, h => by simp [srEq] at h
  | .df _ :: _, .ar _ :: _, h => by simp [srEq] at h
/-- may stand where a truth is asked -/
def tOk : Ex → Bool
  | .ife .. => false
  | .kin .. => true
  | _ => true
def ownL (N : List Str) (vs : List Nat) : List (Str × Nat) := vs.map fun i => ((N[i]?).getD Str.empty, i)
theorem ownL_snd (N : List Str) (vs : List Nat) : (ownL N vs).map (·.2) = vs := by
  unfold ownL
  rw [List.map_map]
  exact List.map_id vs
def cellsOf (sc : Scope) : List Str := (sc.names.filter fun y => y.2 == .cell).map (·.1)
mutual
def okT (N : List Str) (c : Ctx) (q : Nat → Bool) : Tg → Expr → Bool
  | .nm i, e => (match e with | .Name x _ => tgOk N c q i x | _ => false)
  | .tp ts, e => (match e with | .Tuple es _ _ => okTs N c q ts es | _ => false)
def okTs (N : List Str) (c : Ctx) (q : Nat → Bool) : Tgs → List Expr → Bool
  | .nil, es => (match es with | [] => true | _ => false)
  | .cons t ts, es => (match es with | e :: r => noStar e && okT N c q t e && okTs N c q ts r | _ => false)
end
/-- a written tuple of built-in kinds -/
def tysB (T : Txt) (c : Ctx) : List String → List Expr → Bool
  | [], [] => true
  | t :: ts, .Name y _ :: es => clsNames.contains t && decide (y = Str.ofString t) && T.nb.contains y && isGl c.sc y && tysB T c ts es
  | _, _ => false
mutual
def okE (T : Txt) (G : List D) (N : List Str) (c : Ctx) : Ex → Expr → Bool
  | .lit d, e => (match e with | .Constant k _ _ => litOk d k | _ => false)
  | .var i, e => (match e with | .Name x _ => nmOk N c i x | _ => false)
  | .own i, e => (match e with | .Name x _ => nmOk N c i x | _ => false)
  | .frz i, e => (match e with | .Name x _ => nmOk N c i x | _ => false)
  | .glb g, e => (match e with | .Name x _ => glOk T c g x && !isDct G[g]? | _ => false)
  | .kidx g a, e => (match e with | .Subscript (.Name x _) b _ => glOk T c g x && isDct G[g]? && noSl b && okE T G N c a b | _ => false)
  | .kin neg g a, e => (match e with | .Compare b [op] [.Name x _] _ => glOk T c g x && isDct G[g]? && decide (op = if neg then .NotIn else .In) && okE T G N c a b | _ => false)
  | .kget _ _, _ => false
  | .bin op a b, e => (match e with | .BinOp x op' y _ => decide (op = op') && opOk op && okE T G N c a x && okE T G N c b y | _ => false)
  | .neg a, e => (match e with | .UnaryOp .USub x _ => okE T G N c a x | _ => false)
  | .not_ a, e => (match e with | .UnaryOp .Not x _ => tOk a && okE T G N c a x | _ => false)
  | .bo op as, e => (match e with | .BoolOp op' es _ => decide (op = op') && !es.isEmpty && okEs T G N c true as es | _ => false)
  | .cmp op a b, e => (match e with | .Compare x [op'] [y] _ => decide (op = op') && !behindInMarks op y && okE T G N c a x && okE T G N c b y | _ => false)
  | .cmp2 op op1 a b d, e => (match e with | .Compare x [op', op1'] [y, z] _ => decide (op = op') && decide (op1 = op1') && !lastMarks [op, op1] [y, z] && okE T G N c a x && okE T G N c b y && okE T G N c d z | _ => false)
  | .ife t a b, e => (match e with | .IfExp x y z _ => tOk t && okE T G N c t x && okE T G N c a y && okE T G N c b z | _ => false)
  | .tup as, e => (match e with | .Tuple es _ _ => okEs T G N c false as es | _ => false)
  | .lst as, e => (match e with | .List es _ => okEs T G N c false as es | _ => false)
  | .idx a b, e => (match e with | .Subscript x y _ => noSl y && okE T G N c a x && okE T G N c b y | _ => false)
  | .slc a lo hi, e => (match e with | .Subscript x (.Slice l h none _) _ => okE T G N c a x && okO T G N c lo l && okO T G N c hi h | _ => false)
  | .rev a, e => (match e with | .Subscript x (.Slice none none (some (.UnaryOp .USub (.Constant (.int i) _ _) _)) _) _ => decide (i = 1) && okE T G N c a x | _ => false)
  | .by2 a, e => (match e with | .Subscript x (.Slice none none (some (.Constant (.int i) _ _)) _) _ => decide (i = 2) && okE T G N c a x | _ => false)
  | .bad, _ => true
  | .dget a b, e => (match e with | .Call (.Attribute o n apos) [e1] [] pos => decide (n = "get") && noCall o && noStar e1 && (apos.endLine == pos.line) && okE T G N c a o && okE T G N c b e1 | _ => false)
  | .dget2 a b d, e => (match e with | .Call (.Attribute o n apos) [e1, e2] [] pos => decide (n = "get") && noCall o && noStar e1 && noStar e2 && (apos.endLine == pos.line) && okE T G N c a o && okE T G N c b e1 && okE T G N c d e2 | _ => false)
  | .dct as, e => (match e with | .Dict ks vs _ => decide (ks.length ≤ 15) && okP T G N c as ks vs | _ => false)
  | .bi f as, e => (match e with
    | .Call (.Name x _) es kws _ => isGl c.sc x && T.nb.contains x && (match kws with
     | [⟨nm, d, _⟩] => (match es, as with
       | [e1], .cons a .nil => decide (x = "sorted") && noStar e1 && okE T G N c a e1 && (match f, d with
         | .srtK k, .Lambda ps body sc _ => decide (nm = some "key") && c.lm && (match ps.args with
           | [pa] => lamB pa.arg ps sc && kyB pa.arg k body
           | _ => false)
         | .sortedR, .Constant (.bool b) _ _ => decide (nm = some "reverse") && b
         | _, _ => false)
       | [e1], .cons a (.cons b .nil) => decide (nm = some "default") && (match f with
         | .minD => decide (x = "min")
         | .maxD => decide (x = "max")
         | _ => false) && noStar e1 && okE T G N c a e1 && okE T G N c b d
       | _, _ => false)
     | _ :: _ => false
     | [] => match f, es with
      | .sortedSet, es => decide (x = "sorted") && (match es with
        | [.Call (.Name y _) [e1] [] _] => decide (y = "set") && isGl c.sc y && T.nb.contains y && noStar e1 && okEs T G N c false as [e1]
        | _ => false)
      | .lenSet, es => decide (x = "len") && (match es, as with
        | [.Call (.Name y _) [e1] [] _], .cons a .nil => decide (y = "set") && isGl c.sc y && T.nb.contains y && noStar e1 && okE T G N c a e1
        | _, _ => false)
      | .listRange, es => decide (x = "list") && (match es, as with
        | [.Call (.Name y _) [e1] [] _], .cons a .nil => decide (y = "range") && isGl c.sc y && T.nb.contains y && noStar e1 && okE T G N c a e1
        | [.Call (.Name y _) [e1, e2] [] _], .cons a (.cons b .nil) => decide (y = "range") && isGl c.sc y && T.nb.contains y && noStar e1 && noStar e2 && okE T G N c a e1 && okE T G N c b e2
        | _, _ => false)
      | .dict1, es => decide (x = "dict") && (match es, as with
        | [e1], .cons a .nil => noStar e1 && okE T G N c a e1
        | _, _ => false)
      | .isinst ts, [e1, t] => decide (x = "isinstance") && noStar e1 && (match as with | .cons a .nil => okE T G N c a e1 | _ => false) && (match ts, t with
        | [t1], .Name y _ => clsNames.contains t1 && decide (y = Str.ofString t1) && T.nb.contains y && isGl c.sc y
        | ts, .Tuple es _ _ => decide (ts.length ≤ 100) && tysB T c ts es
        | _, _ => false)
      | f, es => (match biN f with | some (y, _, _) => decide (x = y) | none => false) && !es.isEmpty && okEs T G N c false as es)
    | _ => false)
  | .me m a as, e => (match e with
    | .Call (.Attribute o n apos) [e1] [] pos => (match m, as with
      | .zfill, .cons b .nil => decide (n = "zfill") && noCall o && noStar e1 && (apos.endLine == pos.line) && okE T G N c a o && okE T G N c b e1
      | .join, .cons b .nil => decide (n = "join") && noCall o && noStar e1 && (apos.endLine == pos.line) && okE T G N c a o && okE T G N c b e1
      | _, _ => false)
    | _ => false)
  | .call f km as ks src, e => (match e with
    | .Call (.Name x _) es kws _ => decide (T.fn[f]? = some x) && isGl c.sc x && plainName x && okEs T G N c false as es && okKs T G N c ks kws && (match T.fms[km]? with
      | some fm => decide (fm.f = f) && decide (fm.np = alen as) && kwN kws fm.ks && srEq fm.src src
      | none => false)
    | _ => false)
  | .comp vs it tg cs el, e => (match e with
    | .ListComp elt [⟨tge, iter, ifs, a⟩] scope _ => decide (a = 0) && noSet iter && okI T G N c it tge iter && blkC N c.sc scope (ownL N vs) &&
      okT N ⟨relS scope c.sc, cellsOf scope, false⟩ (vs.contains ·) tg tge && okEs T G N ⟨relS scope c.sc, cellsOf scope, false⟩ true cs ifs && decide (alen cs ≤ 1) && okE T G N ⟨relS scope c.sc, cellsOf scope, false⟩ el elt
    | _ => false)
  | .compO i vs tg cs el, e => (match e with
    | .ListComp elt [⟨tge, .Name x _, ifs, a⟩] scope _ => decide (a = 0) && nmOk N c i x && blkC N c.sc scope (ownL N vs) &&
      okT N ⟨relS scope c.sc, cellsOf scope, false⟩ (vs.contains ·) tg tge && okEs T G N ⟨relS scope c.sc, cellsOf scope, false⟩ true cs ifs && decide (alen cs ≤ 1) && okE T G N ⟨relS scope c.sc, cellsOf scope, false⟩ el elt
    | _ => false)
  | .pop i a, e => (match e with
    | .Call (.Attribute (.Name x _) nm apos) es [] cpos => decide (nm = "pop") && nmOk N c i x && (apos.endLine == cpos.line) && (match a, es with
      | .no, [] => true
      | .so b, [e1] => noStar e1 && okE T G N c b e1
      | _, _ => false)
    | _ => false)
def okEs (T : Txt) (G : List D) (N : List Str) (c : Ctx) (t : Bool) : Exs → List Expr → Bool
  | .nil, es => (match es with | [] => true | _ => false)
  | .cons a as, es => (match es with | e :: r => (noStar e && (!t || tOk a)) && okE T G N c a e && okEs T G N c t as r | _ => false)
def okP (T : Txt) (G : List D) (N : List Str) (c : Ctx) : Exs → List (Option Expr) → List Expr → Bool
  | .nil, ks, vs => (match ks, vs with | [], [] => true | _, _ => false)
  | .cons k as, ks, vs => (match ks, vs, as with | some x :: ks', y :: vs', .cons v r => okE T G N c k x && okE T G N c v y && okP T G N c r ks' vs' | _, _, _ => false)
def okKs (T : Txt) (G : List D) (N : List Str) (c : Ctx) : Exs → List Keyword → Bool
  | .nil, es => (match es with | [] => true | _ => false)
  | .cons a as, es => (match es with | ⟨_, e, _⟩ :: r => okE T G N c a e && okKs T G N c as r | _ => false)
def okO (T : Txt) (G : List D) (N : List Str) (c : Ctx) : Oe → Option Expr → Bool
  | .no, e => (match e with | none => true | _ => false)
  | .so a, e => (match e with | some x => okE T G N c a x | _ => false)
def okI (T : Txt) (G : List D) (N : List Str) (c : Ctx) : It → Expr → Expr → Bool
  | .seq a, _, e => okE T G N c a e
  | .rng1 a, _, e => (match e with | .Call (.Name x _) [y] [] _ => decide (x = "range") && isGl c.sc x && T.nb.contains x && noStar y && okE T G N c a y | _ => false)
  | .rng2 a b, _, e => (match e with | .Call (.Name x _) [y, z] [] _ => decide (x = "range") && isGl c.sc x && T.nb.contains x && noStar y && noStar z && okE T G N c a y && okE T G N c b z | _ => false)
  | .enum a, tge, e => (match tge with | .Tuple .. => true | _ => false) && (match e with | .Call (.Name x _) [y] [] _ => decide (x = "enumerate") && isGl c.sc x && T.nb.contains x && noStar y && okE T G N c a y | _ => false)
  | .zip2 a b, tge, e => (match tge with | .Tuple .. => true | _ => false) && (match e with | .Call (.Name x _) [y, z] [] _ => decide (x = "zip") && isGl c.sc x && T.nb.contains x && noStar y && noStar z && okE T G N c a y && okE T G N c b z | _ => false)
  | .dkeys _, _, _ => false
  | .zipS a b, tge, e => (match tge with | .Tuple .. => true | _ => false) && (match e with | .Call (.Name x _) [y, z] [⟨some n, .Constant (.bool true) _ _, _⟩] _ => decide (n = "strict") && decide (x = "zip") && isGl c.sc x && T.nb.contains x && noStar y && noStar z && okE T G N c a y && okE T G N c b z | _ => false)
  | .rev a, _, e => (match e with | .Call (.Name x _) [y] [] _ => decide (x = "reversed") && isGl c.sc x && T.nb.contains x && noStar y && okE T G N c a y | _ => false)
end
end Pv

/-! PvS15: the checker of expressions is sound. -/
namespace Pv
open PySem PySem.Spec PyProof.Rows L2
variable [TabC]

theorem bindA {α β γ : Type} (m : M α) (f : α → M β) (g : β → M γ) : (do let y ← (do let x ← m; f x); g y) = (do let x ← m; let y ← f x; g y) := by
  funext e
  show ((m e).bind f).bind g = (m e).bind fun x e1 => (f x e1).bind g
  cases m e <;> rfl
theorem bindR {α β : Type} (a : α) (f : α → M β) : (do let x ← (M.ret a); f x) = f a := rfl
theorem star_cons {e : Expr} {es : List Expr} {env : Env} (h : noStar e = true) : starEach (e :: es) env = (false, eval e env) :: starEach es env := by
  cases e <;> first | rfl | cases h
theorem star_none {pos : Pos} {env : Env} : ∀ {es : List Expr}, es.all noStar = true → (backTo pos (starEach es env)).any (·.1) = false
  | [], _ => rfl
  | e :: es, h => by
    simp only [List.all_cons, Bool.and_eq_true] at h
    rw [star_cons h.1]
    show (false || (backTo pos (starEach es env)).any (·.1)) = false
    rw [star_none h.2]; rfl
theorem kw_names {pos : Pos} {env : Env} : ∀ {kws : List Keyword} {ks : List Str}, kwN kws ks = true → (backToKw pos (keywordEach kws env)).all (·.1.isSome) = true ∧ (backToKw pos (keywordEach kws env)).filterMap (·.1) = ks ∧ (backToKw pos (keywordEach kws env)).any (·.1.isNone) = false ∧ kws.length = ks.length
  | [], [], _ => ⟨rfl, rfl, rfl, rfl⟩
  | ⟨some n, e, p⟩ :: r, m :: ms, h => by
    simp only [kwN, Bool.and_eq_true, decide_eq_true_eq] at h
    obtain ⟨h1, h2, h3, h4⟩ := kw_names (pos := pos) (env := env) h.2
    refine ⟨?_, ?_, ?_, by simp [h4]⟩
    · show (true && (backToKw pos (keywordEach r env)).all (·.1.isSome)) = true
      rw [h1]; rfl
    · show n :: (backToKw pos (keywordEach r env)).filterMap (·.1) = _
      rw [h2, h.1]
    · show (false || (backToKw pos (keywordEach r env)).any (·.1.isNone)) = false
      rw [h3]; rfl
  | [], _ :: _, h => by simp [kwN] at h
  | ⟨none, _, _⟩ :: _, _, h => by simp [kwN] at h
  | ⟨some _, _, _⟩ :: _, [], h => by simp [kwN] at h
theorem plainIx_of {b : Expr} (h : noSl b = true) : PlainIx b := by
  intro o i
  cases b <;> first | rfl | cases h
theorem evs_len {cn : Cn} : ∀ {as : Exs} {e : En} {xs : List AV} {e' : En}, evs cn as e = .ok xs e' → xs.length = alen as
  | .nil, e, xs, e', h => by
    have h : Pv.R.ok [] e = Pv.R.ok xs e' := h
    cases h; rfl
  | .cons a as, e, xs, e', h => by
    have h : (ev cn a e).bind (fun x => (do let xs ← evs cn as; M.ret (x :: xs) : M (List AV))) = .ok xs e' := h
    cases q : ev cn a e with
    | ok x e1 =>
      rw [q] at h
      have h : (evs cn as e1).bind (fun xs => M.ret (x :: xs)) = .ok xs e' := h
      cases q2 : evs cn as e1 with
      | ok ys e2 =>
        rw [q2] at h
        have h : Pv.R.ok (x :: ys) e2 = Pv.R.ok xs e' := h
        cases h
        simp [alen, evs_len q2]
      | ex _ _ => rw [q2] at h; cases h
      | bad => rw [q2] at h; cases h
    | ex _ _ => rw [q] at h; cases h
    | bad => rw [q] at h; cases h

/-- the names that may be stored to as cells -/
def Fc (c : Ctx) (X : Cx) : Prop := (∀ x, c.fc.contains x = true → X.fn x = true) ∧ (c.lm = true → LamT X)
section
variable {T : Txt} {P : Pr} {k : Nat} {N : List Str} {W : WX} {X : Cx} {c : Ctx}
theorem pv_boolV {e : Expr} {m : M AV} (h : PE X e (tA T.tx X.K W m)) : PE X e (tA T.tx X.K W (boolV (tstM m))) := h.mono fun σ H Q q => by
  obtain ⟨Hs, e, A, R, g⟩ := q
  refine ⟨Hs, e, A, R, (tst_at (Pst.bind g)).imp fun a e1 ⟨b, ea, g⟩ v H1 Hs1 A1 s1 R1 r1 => ?_⟩
  subst ea
  exact g v H1 Hs1 A1 s1 R1 r1
theorem nmOk_inv {i : Nat} {x : Str} (h : nmOk N c i x = true) : N[i]? = some x ∧ isVis c.sc x = true ∧ plainName x = true := by
  unfold nmOk at h
  simp only [Bool.and_eq_true, decide_eq_true_eq] at h
  exact ⟨h.1.1, h.1.2, h.2⟩
theorem glOk_inv {g : Nat} {x : Str} (h : glOk T c g x = true) : T.gl[g]? = some x ∧ isGl c.sc x = true ∧ plainName x = true := by
  unfold glOk at h
  simp only [Bool.and_eq_true, decide_eq_true_eq] at h
  exact ⟨h.1.1, h.1.2, h.2⟩
theorem isDct_inv {o : Option D} (h : isDct o = true) : ∃ kvs, o = some (.dict kvs) := by
  unfold isDct at h
  split at h
  · exact ⟨_, rfl⟩
  · cases h
/-- a value of an expression whose truth is asked in the plain way -/
theorem both_of {e : Expr} {m : M AV} {t : Bool} (h : PE X e (tA T.tx X.K W m)) (he : ∀ whole, isTrue e X.env whole = (do let v ← whole; standAt e.pos; holding [v] (truthy v))) :
    PE X e (tA T.tx X.K W m) ∧ (t = true → PT X e (tT T.tx X.K W (tstM m))) := ⟨h, fun _ => pv_tst h he⟩
theorem lit_pe {d : D} {kc : Const} {j : Nat} {pos : Pos} (h : litOk d kc = true) : PE X (.Constant kc j pos) (tA T.tx X.K W (M.ret (.val d))) := by
  cases d <;> cases kc <;> simp only [litOk] at h <;> first | (cases h; done) | skip
  · exact pv_lit (v := .non) rfl pe_non
  · rename_i b b'
    have : b = b' := by simpa using h
    subst this
    exact pv_lit (v := .bl b) rfl pe_bl
  · rename_i i j
    have : i = j := by simpa using h
    subst this
    exact pv_lit (v := .int i) rfl pe_int
  · rename_i x y
    have : x = y := by simpa using h
    subst this
    exact pv_lit (v := .str x) rfl pe_str

/-! ### targets -/
theorem tg_loc {q : Nat → Bool} {i : Nat} {x : Str} {sc : Scope} (hsc : X.env.scope = c.sc) (F : Fc c X) (h : tgOk N c q i x = true) : N[i]? = some x ∧ q i = true ∧ Loc X.env.scope x ∧ (X.fn x = true ∨ X.env.scope.names.lookup x = some .local) := by
  unfold tgOk at h
  simp only [Bool.and_eq_true, decide_eq_true_eq] at h
  obtain ⟨⟨h1, h2⟩, h3⟩ := h
  refine ⟨h1, h2, ?_⟩
  unfold L2.Loc
  rw [hsc]
  split at h3
  · rename_i e; exact ⟨.inl e, .inr e⟩
  · rename_i e; exact ⟨.inr e, .inl (F.1 x h3)⟩
  · cases h3
theorem assignEach_cons {e : Expr} {es : List Expr} {env : Env} (h : noStar e = true) : assignEach (e :: es) env = (false, assign e env) :: assignEach es env := by
  cases e <;> first | rfl | cases h
theorem okTs_star {q : Nat → Bool} : ∀ {ts : Tgs} {es : List Expr}, okTs N c q ts es = true → es.all noStar = true ∧ es.length = tlen ts
  | .nil, es, h => by
    unfold okTs at h
    split at h
    · exact ⟨rfl, rfl⟩
    · cases h
  | .cons t ts, es, h => by
    unfold okTs at h
    split at h
    · simp only [Bool.and_eq_true] at h
      obtain ⟨h1, h2⟩ := okTs_star h.2
      exact ⟨by simp [h1, h.1.1], by simp [tlen, h2]⟩
    · cases h
theorem assign_len {env : Env} : ∀ {es : List Expr}, es.all noStar = true → (assignEach es env).length = es.length ∧ (assignEach es env).findIdx? (·.1) = none
  | [], _ => ⟨rfl, rfl⟩
  | e :: es, h => by
    simp only [List.all_cons, Bool.and_eq_true] at h
    obtain ⟨h1, h2⟩ := assign_len (env := env) h.2
    rw [assignEach_cons h.1]
    refine ⟨by simp [h1], ?_⟩
    rw [List.findIdx?_cons]
    simp [h2]
mutual
theorem soT {p : Nat → Prop} {q : Nat → Bool} (hq : ∀ i, q i = true → ¬ p i) (hN : N.Nodup) (hXN : X.N = N) (hsc : X.env.scope = c.sc) (hc : X.calm = true) (F : Fc c X) : ∀ (t : Tg) (e : Expr), okT N c q t e = true → PG X e (tG T.tx X.K W p (bindT t))
  | .nm i, e, h => by
    unfold okT at h
    split at h
    · obtain ⟨h1, h2, h3, h4⟩ := tg_loc (sc := c.sc) hsc F h
      exact pv_nm (by rw [hXN]; exact hN) (by rw [hXN]; exact h1) h3 h4 (hq i h2)
    · cases h
  | .tp ts, e, h => by
    unfold okT at h
    split at h
    · obtain ⟨h1, h2⟩ := okTs_star h
      obtain ⟨h3, h4⟩ := assign_len (env := X.env) h1
      exact pv_tp hc (soTs hq hN hXN hsc hc F ts _ h) (h3.trans h2) h4
    · cases h
theorem soTs {p : Nat → Prop} {q : Nat → Bool} (hq : ∀ i, q i = true → ¬ p i) (hN : N.Nodup) (hXN : X.N = N) (hsc : X.env.scope = c.sc) (hc : X.calm = true) (F : Fc c X) : ∀ (t : Tgs) (es : List Expr), okTs N c q t es = true → PGs X es (tGs T.tx X.K W p (bindT.bindTs t))
  | .nil, es, h => by
    unfold okTs at h
    split at h
    · exact pv_tgNil
    · cases h
  | .cons t ts, es, h => by
    unfold okTs at h
    split at h
    · simp only [Bool.and_eq_true] at h
      exact pv_tgCons (soT hq hN hXN hsc hc F t _ h.1.2) (soTs hq hN hXN hsc hc F ts _ h.2) (by rw [assignEach_cons h.1.1] <;> rfl)
    · cases h
end
theorem okEs_star {G : List D} {t : Bool} : ∀ {as : Exs} {es : List Expr}, okEs T G N c t as es = true → es.all noStar = true ∧ es.length = alen as
  | .nil, es, h => by
    unfold okEs at h
    split at h
    · exact ⟨rfl, rfl⟩
    · cases h
  | .cons t ts, es, h => by
    unfold okEs at h
    split at h
    · simp only [Bool.and_eq_true] at h
      obtain ⟨h1, h2⟩ := okEs_star h.2
      exact ⟨by simp [h1, h.1.1.1], by simp [alen, h2]⟩
    · cases h
theorem okKs_len {G : List D} : ∀ {as : Exs} {es : List Keyword}, okKs T G N c as es = true → es.length = alen as
  | .nil, es, h => by
    unfold okKs at h
    split at h
    · rfl
    · cases h
  | .cons t ts, es, h => by
    unfold okKs at h
    split at h
    · simp only [Bool.and_eq_true] at h
      simp [alen, okKs_len h.2]
    · cases h
end
end Pv

/-! PvMin: min(xs, default=d), max(xs, default=d) of a list of numbers. -/
namespace Pv
open PySem PySem.Spec PyProof.Rows L2
variable [TabC]

theorem minOf_int (y : Int) (ys : List Int) (d : Int) : PySem.W.minOf y ys = minI d (y :: ys) := by
  show ys.foldl (fun a y => if decide (y < a) = true then y else a) y = ys.foldl (fun a y => if y < a then y else a) y
  simp only [decide_eq_true_eq]
theorem maxOf_int (y : Int) (ys : List Int) (d : Int) : PySem.W.maxOf y ys = maxI d (y :: ys) := by
  show ys.foldl (fun a y => if decide (a < y) = true then y else a) y = ys.foldl (fun a y => if a < y then y else a) y
  simp only [decide_eq_true_eq]
/-- the rule of both -/
def rMD (K : PySem.W.Frag) (f : Int → List Int → Int) : List V → List V → Hp → VK → Prop := fun vs zs H Q => ∃ (l : Addr) (ns : List Int) (d : Int), vs = [.ref l] ∧ zs = [.int d] ∧ SqL K H l (ns.map V.int) ∧ Q (.int (f d ns)) H
section
variable {X : Cx}
theorem int_one {d : Int} {ws : List Value} (r : Vals [V.int d] ws) : ∃ t, ws = [.int d t] := by
  cases r with
  | cons r rs =>
    cases rs
    obtain ⟨t, rfl⟩ := r
    exact ⟨t, rfl⟩
theorem holds_int_rel {h : Heap} {v : Value} {i : Int} (H : PySem.W.Holds h v i) : RelV (.int i) v := by
  cases PySem.W.HoldAll.toInts (PySem.W.HoldAll.cons H PySem.W.HoldAll.nil) with
  | cons n t _ => exact ⟨t, rfl⟩
theorem cr_minD (hc : X.calm = true) (hu : X.A.units + 65 < cLine) : CallRK X (.builtin "min") [Str.ofString "default"] (rMD X.K minI) := by
  intro pins s σ H xs zs us ws Q I r rz h
  obtain ⟨l, ns, d, rfl, rfl, hs, q⟩ := h
  obtain ⟨its, rv, hl, _⟩ := I.list hs
  rw [Vals.ref1 r]
  obtain ⟨t, rfl⟩ := int_one rz
  refine PySem.W.min_list_datum_default (α := Int) (I.ok.hd hc) hl.isList (PySem.W.HoldAll.of_ints rv.ints) (by show X.A.units + 1 + 0 < cLine; omega) (fun e h' tk k => ?_) fun y ys i v h' tk e hi hv k => ?_
  · subst e
    exact ⟨.int d, H, I.kept k, ⟨t, rfl⟩, q⟩
  · subst e
    exact ⟨.int (minI d (y :: ys)), H, I.kept k, by rw [← minOf_int]; exact holds_int_rel hv, q⟩
theorem cr_maxD (hc : X.calm = true) (hu : X.A.units + 65 < cLine) : CallRK X (.builtin "max") [Str.ofString "default"] (rMD X.K maxI) := by
  intro pins s σ H xs zs us ws Q I r rz h
  obtain ⟨l, ns, d, rfl, rfl, hs, q⟩ := h
  obtain ⟨its, rv, hl, _⟩ := I.list hs
  rw [Vals.ref1 r]
  obtain ⟨t, rfl⟩ := int_one rz
  refine PySem.W.max_list_datum_default (α := Int) (I.ok.hd hc) hl.isList (PySem.W.HoldAll.of_ints rv.ints) (by show X.A.units + 1 + 0 < cLine; omega) (fun e h' tk k => ?_) fun y ys i v h' tk e hi hv k => ?_
  · subst e
    exact ⟨.int d, H, I.kept k, ⟨t, rfl⟩, q⟩
  · subst e
    exact ⟨.int (maxI d (y :: ys)), H, I.kept k, by rw [← maxOf_int]; exact holds_int_rel hv, q⟩
end
section
variable {K : PySem.W.Frag}
theorem opB_MD {f : Int → List Int → Int} {bf : Bf} (hf : ∀ ds d, biD bf ds = some d → ∃ xs is n, ds = [.list xs, .int n] ∧ toInts xs = some is ∧ d = .int (f n is)) :
    OpB K (fun xs H Q => ∃ a b, xs = [a, b] ∧ rMD K f [a] [b] H Q) (biD bf) := by
  intro Hs H vs ds d Q s R e q
  obtain ⟨xs, is, n, rfl, hi, rfl⟩ := hf _ _ e
  obtain ⟨x, y, rfl, ra, rb⟩ := R.two
  cases rb.int_inv
  obtain ⟨p, vs, rfl, hl, r⟩ := ra.list_inv
  cases toInts_rp hi r
  exact ⟨_, _, rfl, p, is, n, rfl, rfl, sqL_mono s hl, q _ _ _ (.refl s) (.int _)⟩
theorem biD_minD (ds : List D) (d : D) (h : biD .minD ds = some d) : ∃ xs is n, ds = [.list xs, .int n] ∧ toInts xs = some is ∧ d = .int (minI n is) := by
  unfold biD at h
  split at h <;> try (first | (cases h; done) | (rename_i hh; cases hh; done))
  all_goals first | (rename_i h0 ; cases h0) | skip
  all_goals
    obtain ⟨is, h1, rfl⟩ := Option.map_eq_some_iff.mp h
    exact ⟨_, is, _, rfl, h1, rfl⟩
theorem biD_maxD (ds : List D) (d : D) (h : biD .maxD ds = some d) : ∃ xs is n, ds = [.list xs, .int n] ∧ toInts xs = some is ∧ d = .int (maxI n is) := by
  unfold biD at h
  split at h <;> try (first | (cases h; done) | (rename_i hh; cases hh; done))
  all_goals first | (rename_i h0 ; cases h0) | skip
  all_goals
    obtain ⟨is, h1, rfl⟩ := Option.map_eq_some_iff.mp h
    exact ⟨_, is, _, rfl, h1, rfl⟩
end
section
variable {T : Txt} {P : Pr} {k : Nat} {N : List Str} {sc : Scope} {W : WX} {X : Cx}
theorem pv_MD (C : Cz T P k N sc W X) {e d : Expr} {a b : M AV} {p kp pos : Pos} {x : Str} {id : String} {f : Int → List Int → Int} {bf : Bf}
    (hf : ∀ ds d, biD bf ds = some d → ∃ xs is n, ds = [.list xs, .int n] ∧ toInts xs = some is ∧ d = .int (f n is))
    (hr : CallRK X (.builtin id) [Str.ofString "default"] (rMD X.K f)) (hv : bootBuiltins x = some (.builtin id)) (hn : x ≠ "__name__") (hdb : (x == ("__debug__" : Str)) = false)
    (hb : x ∈ T.nb) (hg : isGl sc x = true) (ha : PE X e (tA T.tx X.K W a)) (hd : PE X d (tA T.tx X.K W b)) (he : starEach [e] X.env = (false, eval e X.env) :: starEach [] X.env) :
    PE X (.Call (.Name x p) [e] [⟨some (Str.ofString "default"), d, kp⟩] pos) (tA T.tx X.K W (do let x ← a; let y ← b; v1 (opM [x, y] false (biD bf)))) := by
  refine (pe_callBK hr (isGl_gl C.hsc hg) (C.fx.nb _ hb) hv (pa_cons ha pa_nil he) (pk_cons hd pk_nil) hn hdb (by rw [he]; rfl) (by rw [he]; rfl) rfl rfl rfl).mono fun σ H Q q => ?_
  obtain ⟨Hs, e, A, R, g⟩ := q
  refine at_bind R g fun x a1 e1 Hs1 H1 A1 s1 R1 r1 P1 => ?_
  refine at_bind R1 P1 fun y b1 e2 Hs2 H2 A2 s2 R2 r2 P2 => ?_
  obtain ⟨x', y', e', q⟩ := op_use (fresh := false) (r := fun xs H Q => ∃ a b, xs = [a, b] ∧ rMD X.K f [a] [b] H Q) (fun h => nomatch h) (opB_MD hf) R2 (AVrs.two (r1.up s2.hs) r2) (Pst_v1 P2) fun d v H' Hs' g s' R' rp => g v H' Hs' A2 ((s1.trans s2).trans s') R' rp
  cases e'
  exact q
/-- of one argument -/
theorem bi1_eq {cn : Cn} {f : Bf} {a : Ex} : ev cn (.bi f (.cons a .nil)) = (do let x ← ev cn a; v1 (opM [x] (rootBi f) (biD f))) := by
  show (do let xs ← (do let x ← ev cn a; let xs ← M.ret []; M.ret (x :: xs)); v1 (opM xs (rootBi f) (biD f))) = _
  rw [bindA]
  congr 1
/-- of two arguments -/
theorem bi2_eq {cn : Cn} {f : Bf} {a b : Ex} : ev cn (.bi f (.cons a (.cons b .nil))) = (do let x ← ev cn a; let y ← ev cn b; v1 (opM [x, y] (rootBi f) (biD f))) := by
  show (do let xs ← (do let x ← ev cn a; let xs ← (do let y ← ev cn b; let ys ← M.ret []; M.ret (y :: ys)); M.ret (x :: xs)); v1 (opM xs (rootBi f) (biD f))) = _
  rw [bindA]
  congr 1
  funext x
  rw [bindA, bindA]
  rfl
theorem pv_minD (C : Cz T P k N sc W X) {e d : Expr} {a b : Ex} {p kp pos : Pos} (hb : ("min" : Str) ∈ T.nb) (hg : isGl sc "min" = true) (ha : PE X e (tA T.tx X.K W (ev (cnOf P k) a))) (hd : PE X d (tA T.tx X.K W (ev (cnOf P k) b)))
    (he : starEach [e] X.env = (false, eval e X.env) :: starEach [] X.env) : PE X (.Call (.Name "min" p) [e] [⟨some "default", d, kp⟩] pos) (tA T.tx X.K W (ev (cnOf P k) (.bi .minD (.cons a (.cons b .nil))))) := by
  rw [bi2_eq]
  exact pv_MD C biD_minD (cr_minD C.calm C.hu) (by decide +kernel) (by decide) (by decide) hb hg ha hd he
theorem pv_maxD (C : Cz T P k N sc W X) {e d : Expr} {a b : Ex} {p kp pos : Pos} (hb : ("max" : Str) ∈ T.nb) (hg : isGl sc "max" = true) (ha : PE X e (tA T.tx X.K W (ev (cnOf P k) a))) (hd : PE X d (tA T.tx X.K W (ev (cnOf P k) b)))
    (he : starEach [e] X.env = (false, eval e X.env) :: starEach [] X.env) : PE X (.Call (.Name "max" p) [e] [⟨some "default", d, kp⟩] pos) (tA T.tx X.K W (ev (cnOf P k) (.bi .maxD (.cons a (.cons b .nil))))) := by
  rw [bi2_eq]
  exact pv_MD C biD_maxD (cr_maxD C.calm C.hu) (by decide +kernel) (by decide) (by decide) hb hg ha hd he
end
end Pv

/-! PvStr: methods of texts. -/
namespace Pv
open PySem PySem.Spec PyProof.Rows L2
variable [TabC]
section
variable {T : Txt} {P : Pr} {k : Nat} {N : List Str} {sc : Scope} {W : WX} {X : Cx}
theorem padOk_small {i : Int} (h : 0 ≤ i ∧ i ≤ 1000) : PadOk i = true := by
  have : ∀ n : Nat, n < 1001 → PadOk (n : Int) = true := by decide +kernel
  obtain ⟨n, rfl⟩ := Int.eq_ofNat_of_zero_le h.1
  exact this n (by omega)
/-- x.name(e) of a text -/
theorem pv_m1 (C : Cz T P k N sc W X) {o e : Expr} {mo m : M AV} {apos pos : Pos} {name : Str} {id : String} {me : Me} {r : V → List V → Hp → VK → Prop}
    (slot : Slot "str" name id) (hty : typeOf (.builtin id) = pure (.type "method_descriptor")) (hm : MtR X id r) (hr : ∀ x xs H Q, r x xs H Q → ∃ z, x = .str z) (hme : ∀ d, meT me d = true → ∃ z, d = .str z) (hB : ∀ z, OpB X.K (fun xs H Q => r (.str z) xs H Q) (meD me (.str z)))
    (ho : PE X o (tA T.tx X.K W mo)) (h : PE X e (tA T.tx X.K W m)) (hs : starEach [e] X.env = [(false, eval e X.env)])
    (hbase : attributeBase o name X.env (eval o X.env) = eval o X.env) (hline : (apos.endLine == pos.line) = true) :
    PE X (.Call (.Attribute o name apos) [e] [] pos) (tA T.tx X.K W (do
      let x ← mo
      let d ← valM x
      let _ ← ofO (if meT me d then some () else none)
      let xs ← (do let y ← m; let ys ← (M.ret [] : M (List AV)); M.ret (y :: ys))
      v1 (opM xs false (meD me d)))) := by
  refine (pe_m1 slot hty hm ho h hs hbase hline).mono fun σ H Q q => ?_
  obtain ⟨Hs, e, A, R, g⟩ := q
  refine at_bind R g fun x a e1 Hs1 H1 A1 s1 R1 r1 P1 => ?_
  obtain ⟨d, rfl, P2⟩ := valM_inv P1.bind
  obtain ⟨_, c, P3⟩ := ofO_inv (Pst.bind P2)
  clear P1 P2
  split at c
  · rename_i ht
    obtain ⟨z, rfl⟩ := hme d ht
    cases Rp.str_inv r1
    refine ⟨⟨_, rfl⟩, at_run R1 (Pst.bind (Pst.bind P3)) fun y b e2 Hs2 H2 A2 s2 R2 r2 P2 => ?_⟩
    have P2 := Pst.later (show Pst T.tx X.K W A1 Hs1 H1 (v1 (opM [b] false (meD me (.str z))) e2) (fun a e' => ∀ v H' Hs' A', Stp A Hs H A' Hs' H' → Rel X.K σ Hs' H' e' A' → rA X.K σ Hs' H' v a → Q v H') from P2) s2
    exact op_use (fresh := false) (r := fun xs H Q => r (.str z) xs H Q) (fun h => nomatch h) (hB z) R2 (AVrs.one r2) (Pst_v1 P2) fun d v H' Hs' g s' R' rp => g v H' Hs' A2 ((s1.trans s2).trans s') R' rp
  · cases c
theorem opB_zfill {K : PySem.W.Frag} {z : Str} : OpB K (fun xs H Q => ∃ (a : Str) (i : Int), V.str z = .str a ∧ xs = [.int i] ∧ PadOk i = true ∧ Q (.str (Txt.zfill a i)) H) (meD .zfill (.str z)) := by
  intro Hs H vs ds d Q s R e q
  match ds, e, R with
  | [.int i], e, R =>
    have e : (if 0 ≤ i ∧ i ≤ 1000 then some (PyData.str (Txt.zfill z i)) else none) = some d := e
    split at e
    · rename_i c
      cases e
      obtain ⟨x, rfl, ra⟩ := R.one
      cases ra.int_inv
      exact ⟨z, i, rfl, rfl, padOk_small c, q _ _ _ (.refl s) (.str _)⟩
    · cases e
theorem pv_zfill (C : Cz T P k N sc W X) {o e : Expr} {mo m : M AV} {apos pos : Pos} (ho : PE X o (tA T.tx X.K W mo)) (h : PE X e (tA T.tx X.K W m)) (hs : starEach [e] X.env = [(false, eval e X.env)])
    (hbase : attributeBase o "zfill" X.env (eval o X.env) = eval o X.env) (hline : (apos.endLine == pos.line) = true) :
    PE X (.Call (.Attribute o "zfill" apos) [e] [] pos) (tA T.tx X.K W (do
      let x ← mo
      let d ← valM x
      let _ ← ofO (if meT .zfill d then some () else none)
      let xs ← (do let y ← m; let ys ← (M.ret [] : M (List AV)); M.ret (y :: ys))
      v1 (opM xs false (meD .zfill d)))) :=
  pv_m1 C F.slot_str_zfill F.type_str_zfill mt_zfill (fun x xs H Q ⟨a, _, h, _⟩ => ⟨a, h⟩) (fun d h => by cases d <;> first | exact ⟨_, rfl⟩ | (simp [meT] at h)) (fun z => opB_zfill) ho h hs hbase hline
end
end Pv

/-! PvGetN: d.get(None) of a dict with numbers and texts as keys. -/
namespace Pv
open PySem PySem.Spec PyProof.Rows L2
variable [TabC]
/-- a key, or None -/
def optIs : Option Key → Value → Bool
  | none, v => (match v with | .none => true | _ => false)
  | some k, v => keyIs k v
theorem optIs_none {v : Value} (h : optIs none v = true) : v = .none := by
  cases v <;> first | rfl | (simp [optIs] at h; done)
def optKind (prog : Program) (w : World) : PySem.KeyKind prog w (Option Key) where
  is := optIs
  hash := fun k => match k with | none => Leaf.none.key.hash w | some k => keyH w k
  inj := fun v a b ha hb => by
    cases a with
    | none =>
      cases optIs_none ha
      cases b with
      | none => rfl
      | some y => rcases keyIs_shape (show keyIs y .none = true from hb) with ⟨_, _, _, e⟩ | ⟨_, _, _, e⟩ <;> cases e
    | some x =>
      cases b with
      | none =>
        cases optIs_none hb
        rcases keyIs_shape (show keyIs x .none = true from ha) with ⟨_, _, _, e⟩ | ⟨_, _, _, e⟩ <;> cases e
      | some y => rw [(mixKind prog w).inj v x y ha hb]
  byValue := fun k v h => by
    cases k with
    | none => cases optIs_none h; rfl
    | some k => exact (mixKind prog w).byValue k v h
  pyHash := fun {A E s k v Q} hv h => by
    cases k with
    | none => exact pyHash_leaf (k := Leaf.none) (show Leaf.isOf Leaf.none v = true from by cases optIs_none hv; rfl) h
    | some k => exact (mixKind prog w).pyHash (k := k) hv h
  eqBool := fun {A E s a b u v Q} hu hv h => by
    cases a with
    | none =>
      cases optIs_none hu
      cases b with
      | none => cases optIs_none hv; exact SeqAt.EqAt.same _ _ _ _ _ h
      | some y =>
        rcases keyIs_shape (show keyIs y v = true from hv) with ⟨i, t, rfl, rfl⟩ | ⟨x, t, rfl, rfl⟩
        · exact SeqAt.EqAt.none_int i t _ _ _ _ h
        · exact SeqAt.EqAt.none_str x t _ _ _ _ h
    | some x =>
      cases b with
      | none =>
        cases optIs_none hv
        rcases keyIs_shape (show keyIs x u = true from hu) with ⟨i, t, rfl, rfl⟩ | ⟨x, t, rfl, rfl⟩
        · exact SeqAt.EqAt.int_none i t _ _ _ _ h
        · exact SeqAt.EqAt.str_none x t _ _ _ _ h
      | some y =>
        refine (mixKind prog w).eqBool (a := x) (b := y) hu hv ?_
        have e : decide ((some x : Option Key) = some y) = decide (x = y) := by
          by_cases z : x = y
          · rw [z, decide_eq_true rfl, decide_eq_true rfl]
          · rw [decide_eq_false z, decide_eq_false (fun q => z (Option.some.inj q))]
        rw [e] at h
        exact h
  «strs» := fun k x t v h => by
    cases k with
    | none => exact absurd (optIs_none h) (by simp)
    | some k => exact (mixKind prog w).strs k x t v h
theorem map_opt {prog : Program} {w : World} {h : Heap} {a : Addr} {f : Key → Option Value} (m : h.MapOf (mixKind prog w) a f) : h.MapOf (optKind prog w) a (fun k => match k with | none => none | some k => f k) := by
  obtain ⟨o, es, ep, h1, h2, h3, h4, h5⟩ := m
  refine ⟨o, es, ep, h1, h2, h3, fun e he => ?_, fun k => ?_⟩
  · obtain ⟨k, e1, e2⟩ := h4 e he
    exact ⟨some k, e1, e2⟩
  · cases k with
    | none =>
      show (es.find? fun e => optIs none e.key).map (·.val) = none
      rw [Option.map_eq_none_iff, Array.find?_eq_none]
      intro e he q
      obtain ⟨k, e1, _⟩ := h4 e he
      rw [optIs_none q] at e1
      rcases keyIs_shape (show keyIs k .none = true from e1) with ⟨_, _, _, e⟩ | ⟨_, _, _, e⟩ <;> cases e
    | some k => exact h5 k
/-- .. or None is asked for -/
def DGetN (H : Hp) (a : Addr) (y : V) (o : Option V) : Prop := DGet H a y o ∨ ((∃ kvs, Rd H a (.dK kvs)) ∧ y = .non ∧ o = none)
section
variable {X : Cx} {pins : List (Addr × Obj)} {σ : L2.St} {H : Hp} {s : Shared} {a : Addr} {y d : V} {u r : Value} {o : Option V} {A : Around} {E : Value → Shared → Prop}
theorem d_getN {Q : Value → Shared → Prop} (hu : A.units + 1 < cLine) (I : Inv X pins σ H s) (g : DGetN H a y o) (ry : RelV y u) (h : ∀ w' s', Inv X pins σ H s' → RelV (o.getD .non) w' → Q w' s') :
    wpAny (model X.prog X.w) A (call (.builtin "dict.get") [.ref a, u]) Q E s := by
  rcases g with g | ⟨⟨kvs, e⟩, ey, eo⟩
  · exact d_get1 hu I g ry h
  · subst ey eo
    have eu : u = .none := ry
    subst eu
    obtain ⟨z, hd, vs, rel, dd⟩ := dk_rd I.hok e
    exact call_meetsIn PySem.F.slot_dict_get dd.typeIs PySem.F.entry_dict_get (PySem.F.args_dict_get_2 _ _) (meets_dict_get (optKind X.prog X.w) (k := none) a rfl hd) ⟨_, map_opt dd.mapOf, h _ _ (I.tok _) rfl⟩
end
def tDGetN (td ty : TE) : TE := fun σ H Q => td σ H fun x H1 => ∃ a, x = .ref a ∧ IsD H1 a ∧ ty σ H1 fun y H2 => ∃ o, DGetN H2 a y o ∧ Q (o.getD .non) H2
theorem pe_dgetN {X : Cx} {o e : Expr} {apos cpos : Pos} {td ty : TE} (hu : X.A.units + 1 < cLine) (ho : PE X o td) (he : PE X e ty) (m : M1 X o "get" apos e cpos) : PE X (.Call (.Attribute o "get" apos) [e] [] cpos) (tDGetN td ty) := by
  refine ⟨fun pins s σ H Q I h => ?_⟩
  refine wpAny_Call_method m.base m.few m.line PySem.F.plainAttrs_dict PySem.F.slot_dict_get PySem.F.type_dict_get (thn (ho.run pins s σ H _ I h) fun u s1 ⟨x, H1, I1, rx, a, ex, d, q1⟩ => ?_)
  subst ex
  obtain rfl : u = Value.ref a := rx
  obtain ⟨t1, t2, _⟩ := isD_at I1 d
  refine ⟨t1, t2, ?_⟩
  rw [m.trees]
  refine Calls.callWith_builtin rfl (Calls.evalArgs_plain (Calls.spliced_cons (thn (he.run pins s1 σ H1 _ I1 q1) fun iv s2 ⟨y, H2, I2, ry, ov, g, q2⟩ => Calls.spliced_nil ?_)))
  exact d_getN hu I2 g ry fun w' s3 I3 rw' => ⟨_, H2, I3, rw', q2⟩
end Pv

/-! PvX2: dicts read, displayed; reversed slices; strict zip; names set together. -/
namespace Pv
open PySem PySem.Spec PyProof.Rows L2
variable [TabC]
section
variable {T : Txt} {P : Pr} {k : Nat} {N : List Str} {sc : Scope} {W : WX} {X : Cx}
theorem pv_bad {e : Expr} : PE X e (tA T.tx X.K W (fun _ => .bad)) := ⟨fun pins s σ H Q I ⟨Hs, e, A, R, g⟩ => (show False from g).elim⟩
theorem pt_bad {e : Expr} {m : M Bool} (h : ∀ e, m e = .bad) : PT X e (tT T.tx X.K W m) := ⟨fun pins s σ H Q I ⟨Hs, e, A, R, g⟩ => by rw [h] at g; exact (show False from g).elim⟩
theorem ps_bad {st : Stmt} {p : Nat → Prop} {m : M Fl} (h : ∀ e, m e = .bad) : PS X st (tS T.tx X.K W p m) := ⟨fun pins s σ H D I ⟨Hs, e, A, R, g⟩ => by rw [h] at g; exact (show False from g).elim⟩
/-! x[::-1] -/
theorem opA_rev {K : PySem.W.Frag} : OpA K (r1v (rRevA K)) (f1 revD) := by
  refine opA1 fun Hs H x a d Q s ra e q => ?_
  cases a <;> simp only [revD] at e <;> try (cases e; done)
  · cases e
    obtain ⟨p, vs, rfl, h, r⟩ := ra.list s
    refine ⟨p, vs, rfl, .inl ⟨h, fun p' n => ?_⟩⟩
    have x := Ext.laid (o := .lst vs.reverse) s n
    exact q _ _ _ x (.lst (.of upd_same) ((RpAll.reverse r).up x.hs))
  · cases e
    obtain ⟨p, vs, rfl, h, r, _⟩ := ra.tuple s
    refine ⟨p, vs, rfl, .inr ⟨h, fun p' n => ?_⟩⟩
    have x := Ext.laid (o := .tup vs.reverse) s n
    exact q _ _ _ x (.tup (.of upd_same) ((RpAll.reverse r).up x.hs))
theorem opA_by2 {K : PySem.W.Frag} : OpA K (r1v (rBy2 K)) (f1 by2D) := by
  refine opA1 fun Hs H x a d Q s ra e q => ?_
  match a, e with
  | .list [d1, d2, d3], e =>
    cases e
    obtain ⟨p, vs, rfl, h, r⟩ := ra.list s
    obtain ⟨u, v, w, rfl, ru, rw'⟩ : ∃ u v w, vs = [u, v, w] ∧ Rp K Hs u d1 ∧ Rp K Hs w d3 := by
      cases r with
      | cons a r => cases r with
        | cons b r => cases r with
          | cons c r => cases r; exact ⟨_, _, _, rfl, a, c⟩
    refine ⟨p, u, v, w, rfl, h, fun p' n => ?_⟩
    have x := Ext.laid (o := .lst [u, w]) s n
    exact q _ _ _ x (.lst (.of upd_same) (.cons (ru.up x.hs) (.cons (rw'.up x.hs) .nil)))
theorem pv_by2 {e : Expr} {m : M AV} {kk : Nat} {p1 p3 pos : Pos} (h : PE X e (tA T.tx X.K W m)) :
    PE X (.Subscript e (.Slice none none (some (.Constant (.int 2) kk p1)) p3) pos) (tA T.tx X.K W (do let x ← m; v1 (opM [x] true (f1 by2D)))) :=
  (pe_by2 h).mono fun σ H Q q => use1 (r := rBy2 X.K) (fun _ => opA_by2) opA_by2.b q
theorem pv_revs {e : Expr} {m : M AV} {kk : Nat} {p1 p2 p3 pos : Pos} (h : PE X e (tA T.tx X.K W m)) :
    PE X (.Subscript e (.Slice none none (some (.UnaryOp .USub (.Constant (.int 1) kk p1) p2)) p3) pos) (tA T.tx X.K W (do let x ← m; v1 (opM [x] true (f1 revD)))) :=
  (pe_revA h).mono fun σ H Q q => use1 (r := rRevA X.K) (fun _ => opA_rev) opA_rev.b q
/-! d.get(k), d.get(k, x) -/
theorem isD_of {K : PySem.W.Frag} {σ : L2.St} {Hs H : Hp} {e : En} {A : Nat → List Addr} {v : V} {a : AV} {kvs : List (D × D)} (R : Rel K σ Hs H e A) (r : AVr K σ Hs v a) (h : resE e a = some (.dict kvs)) : ∃ p, v = .ref p ∧ IsD H p := by
  cases a with
  | val d =>
    have e1 : d = .dict kvs := by simpa [resE] using h
    subst e1
    have r : Rp K Hs v (.dict kvs) := r
    cases r with
    | dct q _ => exact ⟨_, rfl, .inl ⟨_, rd_mono R.sub q⟩⟩
  | own i =>
    simp only [resE] at h
    split at h
    · rename_i m d hi
      cases h
      obtain ⟨u, h1, h2⟩ := R.ow i m _ hi
      have r : σ[i]? = some (some v) := r
      rw [h1] at r
      cases r
      cases m with
      | zero =>
        have q : Rp K Hs v (.dict kvs) := h2.1
        cases q with
        | dct q _ => exact ⟨_, rfl, .inl ⟨_, rd_mono R.sub q⟩⟩
      | succ m =>
        rcases h2 with ⟨a, vs, ds, ls, rfl, e, _⟩ | ⟨a, vs, ds, ls, rfl, e, e2, o, _⟩
        · cases e
        · exact ⟨a, rfl, .inl ⟨vs, .inl e2⟩⟩
    · cases h
theorem dctM_inv {a : AV} {e : En} {Tx : Tx} {K : PySem.W.Frag} {A : Nat → List Addr} {Hs H : Hp} {g : Unit → En → Prop} (h : Pst Tx K W A Hs H (dctM a e) g) : (∃ kvs, resE e a = some (.dict kvs)) ∧ g () e := by
  unfold dctM at h
  split at h
  · rename_i kvs q
    exact ⟨⟨kvs, q⟩, h⟩
  · exact h.elim
def rGet1 : R2 := fun x y H Q => ∃ a, x = .ref a ∧ ∃ o, DGetN H a y o ∧ Q (o.getD .non) H
theorem key_val {K : PySem.W.Frag} {Hs H : Hp} {y : V} {kk : Key} (kv : ∀ {Hs : Hp} {v : V}, Rp K Hs v (keyD kk) → v = kV kk) (rb : RpR K Hs H y (keyD kk)) : y = kV kk := by
  cases kk with
  | inl i => exact rb.int
  | inr z => exact rb.str
theorem look_none : ∀ {Hs : Hp} {K : PySem.W.Frag} {kvs : List (Key × V)} {ds : List (D × D)}, RpKv K Hs kvs ds → lookD .none ds = none
  | _, _, _, _, .nil => rfl
  | _, _, _, _, .cons (k := j) a r => by
    rw [lookD]
    have : PyData.eqv (keyD j) .none = false := by cases j <;> rfl
    rw [this]
    exact look_none r
theorem RpR.non {K : PySem.W.Frag} {Hs H : Hp} {y : V} (h : RpR K Hs H y .none) : y = .non := by
  rcases h with h | ⟨_, _, _, _, h, _⟩ | ⟨_, _, _, _, h, _⟩
  · cases h; rfl
  · cases h
  · cases h
theorem opA_get1 {K : PySem.W.Frag} : OpA K (r2v rGet1) (f2 dget1D) := by
  refine opA2 fun Hs H x y a b d Q s ra rb e q => ?_
  cases a <;> simp only [dget1D] at e <;> try (cases e; done)
  rename_i ds
  split at e
  · rename_i c
    cases e
    rw [Bool.or_eq_true] at c
    obtain ⟨p, kvs, rfl, h, r⟩ := ra.dict s
    rcases c with c | c
    · obtain ⟨kk, rfl, kv⟩ := keyOk_of (K := K) c
      have l := lookD_rp (k := kk) r
      refine ⟨p, rfl, valV kvs kk, .inl (.inl ⟨kvs, kk, h, key_val kv rb, rfl⟩), ?_⟩
      cases hl : lookD (keyD kk) ds with
      | none =>
        rw [hl] at l q
        rw [show valV kvs kk = none from l]
        exact q _ _ _ (.refl s) .non
      | some d =>
        rw [hl] at l q
        obtain ⟨v, l1, l2⟩ := l
        rw [l1]
        exact q _ _ _ (.refl s) l2
    · have eb : b = .none := by cases b <;> first | rfl | cases c
      subst eb
      rw [look_none r] at q
      exact ⟨p, rfl, none, .inr ⟨⟨kvs, h⟩, rb.non, rfl⟩, q _ _ _ (.refl s) .non⟩
  · cases e
def rGet2 : RV := fun xs H Q => ∃ a y z, xs = [.ref a, y, z] ∧ ∃ o, DGet H a y o ∧ Q (o.getD z) H
theorem opB_get2 {K : PySem.W.Frag} : OpB K rGet2 (f3 dget2D) := by
  intro Hs H vs ds d Q s R e q
  match ds, e, R with
  | [a, b, c], e, .cons ra (.cons rb (.cons rc .nil)) =>
    have e : dget2D a b c = some d := e
    have hx : ∃ kds, a = .dict kds := by cases a <;> first | exact ⟨_, rfl⟩ | (simp [dget2D] at e; done)
    obtain ⟨kds, rfl⟩ := hx
    simp only [dget2D] at e
    split at e
    · rename_i hk
      cases e
      obtain ⟨kk, rfl, kv⟩ := keyOk_of (K := K) hk
      cases ra with
      | dct h r =>
        have l := lookD_rp (k := kk) r
        refine ⟨_, _, _, rfl, valV _ kk, .inl ⟨_, kk, rd_mono s h, kv rb, rfl⟩, ?_⟩
        cases hl : lookD (keyD kk) kds with
        | none =>
          rw [hl] at l q
          rw [show valV _ kk = none from l]
          exact q _ _ _ (.refl s) rc
        | some d =>
          rw [hl] at l q
          obtain ⟨v, l1, l2⟩ := l
          rw [l1]
          exact q _ _ _ (.refl s) l2
    · cases e
/-- what is wanted once the dict stands -/
theorem pv_get1 (C : Cz T P k N sc W X) {o e : Expr} {mo m : M AV} {apos cpos : Pos} (ho : PE X o (tA T.tx X.K W mo)) (he : PE X e (tA T.tx X.K W m)) (M : M1 X o "get" apos e cpos) :
    PE X (.Call (.Attribute o "get" apos) [e] [] cpos) (tA T.tx X.K W (do let x ← mo; let _ ← dctM x; let y ← m; v1 (opM [x, y] true (f2 dget1D)))) :=
  (pe_dgetN (by have := C.hu; omega) ho he M).mono fun σ H Q q => by
    obtain ⟨Hs, e, A, R, g⟩ := q
    refine at_bind R g fun x a e1 Hs1 H1 A1 s1 R1 r1 P1 => ?_
    obtain ⟨⟨kvs, hd⟩, P2⟩ := dctM_inv P1.bind
    obtain ⟨p, rfl, hD⟩ := isD_of R1 r1 hd
    refine ⟨p, rfl, hD, ?_⟩
    refine at_bind R1 P2 fun y b e2 Hs2 H2 A2 s2 R2 r2 P3 => ?_
    obtain ⟨x', y', e', p', rfl, o', hg, q⟩ := op_use (r := r2v rGet1) (fun _ => opA_get1) opA_get1.b R2 (AVrs.two (r1.up s2.hs) r2) (Pst_v1 P3) fun d v H' Hs' g s' R' rp => g v H' Hs' A2 ((s1.trans s2).trans s') R' rp
    cases e'
    exact ⟨o', hg, q⟩
theorem pv_get2 (C : Cz T P k N sc W X) {o e f : Expr} {mo m mf : M AV} {apos cpos : Pos} (ho : PE X o (tA T.tx X.K W mo)) (he : PE X e (tA T.tx X.K W m)) (hf : PE X f (tA T.tx X.K W mf)) (M : M2 X o "get" apos e f cpos) :
    PE X (.Call (.Attribute o "get" apos) [e, f] [] cpos) (tA T.tx X.K W (do let x ← mo; let _ ← dctM x; let y ← m; let u ← mf; v1 (opM [x, y, u] false (f3 dget2D)))) :=
  (pe_dget2 (by have := C.hu; omega) ho he hf M).mono fun σ H Q q => by
    obtain ⟨Hs, e, A, R, g⟩ := q
    refine at_bind R g fun x a e1 Hs1 H1 A1 s1 R1 r1 P1 => ?_
    obtain ⟨⟨kvs, hd⟩, P2⟩ := dctM_inv P1.bind
    obtain ⟨p, rfl, hD⟩ := isD_of R1 r1 hd
    refine ⟨p, rfl, hD, ?_⟩
    refine at_bind R1 P2 fun y b e2 Hs2 H2 A2 s2 R2 r2 P3 => ?_
    refine at_bind R2 P3 fun z c e3 Hs3 H3 A3 s3 R3 r3 P4 => ?_
    obtain ⟨p', y', z', e', o', hg, q⟩ := op_use (r := rGet2) (fresh := false) (fun h => nomatch h) opB_get2 R3 (.cons ((r1.up s2.hs).up s3.hs) (.cons (r2.up s3.hs) (.cons r3 .nil))) (Pst_v1 P4) fun d v H' Hs' g s' R' rp => g v H' Hs' A3 (((s1.trans s2).trans s3).trans s') R' rp
    cases e'
    exact ⟨o', hg, q⟩
/-! zip(a, b, strict=True) -/
theorem wk_zipsL {K : PySem.W.Frag} {Hs0 : Hp} {a b : Addr} {xs ys : List V} {ds es : List D} (hl : ds.length = es.length) (sq : SqL K Hs0 a xs) (r : RpAll K Hs0 xs ds) (sq' : SqL K Hs0 b ys) (r' : RpAll K Hs0 ys es) : Wk K Hs0 (IzsL K a b) ((ds.zip es).map fun p => .tuple [p.1, p.2]) := fun Hs H s1 s2 i => by
  obtain ⟨h1, h2⟩ := wk_zipL sq r sq' r' Hs H s1 s2 i
  refine ⟨h1, fun hx => ?_⟩
  have q := sqL_mono s2 (sqL_mono s1 sq)
  have q' := sqL_mono s2 (sqL_mono s1 sq')
  have hx' : ds.length ≤ i := by simpa [hl] using hx
  exact ⟨xs, ys, q, q', by rw [r.length]; exact hx', by rw [r'.length, ← hl]; exact hx'⟩
theorem wk_zipsT {K : PySem.W.Frag} {Hs0 : Hp} {a b : Addr} {xs ys : List V} {ds es : List D} (hl : ds.length = es.length) (sq : SqT K Hs0 a xs) (r : RpAll K Hs0 xs ds) (sq' : SqT K Hs0 b ys) (r' : RpAll K Hs0 ys es) : Wk K Hs0 (IzsT K a b) ((ds.zip es).map fun p => .tuple [p.1, p.2]) := fun Hs H s1 s2 i => by
  obtain ⟨h1, h2⟩ := wk_zipT sq r sq' r' Hs H s1 s2 i
  refine ⟨h1, fun hx => ?_⟩
  have q := sqT_mono s2 (sqT_mono s1 sq)
  have q' := sqT_mono s2 (sqT_mono s1 sq')
  have hx' : ds.length ≤ i := by simpa [hl] using hx
  exact ⟨xs, ys, q, q', by rw [r.length]; exact hx', by rw [r'.length, ← hl]; exact hx'⟩
theorem pv_zipS {a b : Expr} {m m2 : M AV} {p pos tpos cp kp : Pos} {elts : List Expr} {kk ck : Nat} (hg : Gl X "zip") (hm : X.mg "zip" = none) (ha : PE X a (tA T.tx X.K W m)) (hb : PE X b (tA T.tx X.K W m2)) (hs : starEach (a :: [b]) X.env = (false, eval a X.env) :: starEach [b] X.env)
    (hs2 : starEach (b :: []) X.env = (false, eval b X.env) :: starEach [] X.env) :
    PI X (.Tuple elts kk tpos) (.Call (.Name "zip" p) [a, b] [⟨some "strict", .Constant (.bool true) ck cp, kp⟩] pos) (tI T.tx X.K W (do let x ← m; let d ← valM x; let y ← m2; let d' ← valM y; ofO (zipKS d d'))) :=
  (pi_zipS hg hm (pa_two' ha hb hs hs2) (pk_cons pe_bl pk_nil) (by rw [hs, hs2]; rfl) (by rw [hs, hs2]; rfl) (by rfl) (by rfl) (by rfl)).mono fun σ H Q q => by
    obtain ⟨Hs, e, A, R, g⟩ := q
    refine at_bind R g fun v a e1 Hs1 H1 A1 s1 R1 r1 P1 => ?_
    obtain ⟨d, rfl, P1⟩ := valM_inv (Pst.bind P1)
    refine at_bind R1 P1 fun w b e2 Hs2 H2 A2 s2 R2 r2 P2 => ?_
    obtain ⟨d', rfl, P2⟩ := valM_inv (Pst.bind P2)
    obtain ⟨ds, hd, P2⟩ := ofO_inv P2
    unfold zipKS at hd
    have r1 : Rp X.K Hs2 v d := Rp.up s2.hs r1
    split at hd
    · split at hd
      · rename_i hl
        cases r1 with
        | lst q1 r1 =>
          have r2 : Rp X.K Hs2 w _ := r2
          cases r2 with
          | lst q2 r2 => cases hd; exact ⟨_, _, _, _, rfl, rfl, .inl ⟨sqL_mono R2.sub q1, sqL_mono R2.sub q2, P2 _ H2 Hs2 A2 (s1.trans s2) R2 (wk_zipsL hl q1 r1 q2 r2)⟩⟩
      · cases hd
    · split at hd
      · rename_i hl
        cases r1 with
        | tup q1 r1 =>
          have r2 : Rp X.K Hs2 w _ := r2
          cases r2 with
          | tup q2 r2 => cases hd; exact ⟨_, _, _, _, rfl, rfl, .inr ⟨sqT_mono R2.sub q1, sqT_mono R2.sub q2, P2 _ H2 Hs2 A2 (s1.trans s2) R2 (wk_zipsT hl q1 r1 q2 r2)⟩⟩
      · cases hd
    · cases hd
/-! {k: v, ..} -/
theorem readings_pairs {mk mv : M AV} : True := trivial
def flatP : List (V × V) → List V
  | [] => []
  | (x, y) :: r => x :: y :: flatP r
/-- a cell of no one's, filled and shared -/
theorem Rel.fill {K : PySem.W.Frag} {σ : L2.St} {Hs H : Hp} {e : En} {A : Nat → List Addr} {p : Addr} {o u : HO} (R : Rel K σ Hs H e A) (hp : H p = some u) (hc : cont u) (hn : Hs p = none) (ha : ∀ i, p ∉ A i) : Rel K σ (upd Hs p o) (upd H p o) e A where
  len := R.len
  sub := fun b w h => by
    by_cases hb : b = p
    · subst hb; rw [upd_same] at h ⊢; exact h
    · rw [upd_ne hb] at h ⊢; exact R.sub _ _ h
  sh := fun i d h => by
    obtain ⟨v, a, b⟩ := R.sh i d h
    exact ⟨v, a, b.up fun c w hc => by
      by_cases hb : c = p
      · subst hb; rw [hn] at hc; cases hc
      · rw [upd_ne hb]; exact hc⟩
  ow := fun i m d h => by
    obtain ⟨v, a, b⟩ := R.ow i m d h
    refine ⟨v, a, Own.mono (fun c w hc => ?_) m (fun c hc w q => ?_) b⟩
    · by_cases hb : c = p
      · subst hb; rw [hn] at hc; cases hc
      · rw [upd_ne hb]; exact hc
    · have : c ≠ p := fun z => ha i (z ▸ hc)
      rw [upd_ne this]; exact q
  nd := R.nd
  dj := R.dj
  fr := fun i a h => by
    have : a ≠ p := fun z => ha i (z ▸ h)
    rw [upd_ne this]; exact R.fr i a h
  em := R.em
  tb := tabs_upd R.tb hp hc
  nt := fun a t => by
    have : a ≠ p := fun z => isTab.noc R.tb hp hc (z ▸ t)
    rw [upd_ne this]; exact R.nt a t
theorem mrg_any {K : PySem.W.Frag} {Hs : Hp} {k : Key} : ∀ {kvs : List (Key × V)} {ds : List (D × D)}, RpKv K Hs kvs ds → (ds.any fun kv => PyData.eqv kv.1 (keyD k)) = kvs.any fun kv => decide (kv.1 = k)
  | _, _, .nil => rfl
  | _, _, .cons a r => by rw [List.any_cons, List.any_cons, mrg_any r, eqv_keyD]
theorem mrg_map {K : PySem.W.Frag} {Hs : Hp} {k : Key} {v : V} {d : D} (rv : Rp K Hs v d) : ∀ {kvs : List (Key × V)} {ds : List (D × D)}, RpKv K Hs kvs ds → RpKv K Hs (kvs.map fun kv => if kv.1 = k then (kv.1, v) else kv) (ds.map fun kv => if PyData.eqv kv.1 (keyD k) = true then (kv.1, d) else kv)
  | _, _, .nil => .nil
  | _, _, .cons (k := j) (v := w) (d := e) a r => by
    have ih := mrg_map (k := k) rv r
    rw [List.map_cons, List.map_cons]
    show RpKv K Hs ((if j = k then (j, v) else (j, w)) :: _) ((if PyData.eqv (keyD j) (keyD k) = true then (keyD j, d) else (keyD j, e)) :: _)
    rw [eqv_keyD]
    by_cases h : j = k
    · simp only [h, decide_true, if_true]
      exact .cons rv ih
    · simp only [h, decide_false, Bool.false_eq_true, if_false]
      exact .cons a ih
theorem rpkv_append {K : PySem.W.Frag} {Hs : Hp} : ∀ {kvs ks2 : List (Key × V)} {ds es : List (D × D)}, RpKv K Hs kvs ds → RpKv K Hs ks2 es → RpKv K Hs (kvs ++ ks2) (ds ++ es)
  | _, _, _, _, .nil, q => q
  | _, _, _, _, .cons a r, q => .cons a (rpkv_append r q)
theorem put_rp {K : PySem.W.Frag} {Hs : Hp} {k : Key} {v : V} {d : D} {kvs : List (Key × V)} {ds : List (D × D)} (r : RpKv K Hs kvs ds) (rv : Rp K Hs v d) : RpKv K Hs (putK kvs k v) (mrgD (keyD k) d ds) := by
  unfold putK mrgD
  rw [mrg_any r]
  split
  · exact mrg_map rv r
  · exact rpkv_append r (.cons rv .nil)
theorem merge_rp {K : PySem.W.Frag} {Hs : Hp} : ∀ {more : List (Key × V)} {ps : List (D × D)} {kvs : List (Key × V)} {ds : List (D × D)}, RpKv K Hs more ps → RpKv K Hs kvs ds → RpKv K Hs (mergeK kvs more) (ps.foldl (fun m p => mrgD p.1 p.2 m) ds)
  | _, _, _, _, .nil, q => q
  | _, _, kvs, ds, .cons (k := k) (v := v) (kvs := more) (d := d) (ds := ps) a r, q => by
    have := merge_rp (kvs := putK kvs k v) (ds := mrgD (keyD k) d ds) r (put_rp q a)
    exact this
/-- the pairs' data -/
theorem pairU_rp {K : PySem.W.Frag} {Hs : Hp} : ∀ {ps : List (V × V)} {ds : List D} {qs : List (D × D)}, RpAll K Hs (flatP ps) ds → pairU ds = some qs → ∃ kvs : List (Key × V), ps = kvs.map (fun kv => (kV kv.1, kv.2)) ∧ RpKv K Hs kvs qs
  | [], ds, qs, r, h => by
    cases r
    cases h
    exact ⟨[], rfl, .nil⟩
  | (x, y) :: ps, ds, qs, r, h => by
    cases r with
    | cons rx r => cases r with
      | cons ry r =>
        simp only [pairU] at h
        split at h
        · rename_i hk
          obtain ⟨kk, rfl, kv⟩ := keyOk_of (K := K) hk
          obtain ⟨q, h1, rfl⟩ := Option.map_eq_some_iff.mp h
          obtain ⟨kvs, rfl, rk⟩ := pairU_rp r h1
          exact ⟨(kk, y) :: kvs, by rw [kv rx]; rfl, .cons ry rk⟩
        · cases h
theorem pairU_len : ∀ {ds : List D} {qs : List (D × D)}, pairU ds = some qs → True := fun _ => trivial
theorem rpkv_len {K : PySem.W.Frag} {Hs : Hp} : ∀ {kvs : List (Key × V)} {ds : List (D × D)}, RpKv K Hs kvs ds → kvs.length = ds.length
  | _, _, .nil => rfl
  | _, _, .cons _ r => by rw [List.length_cons, List.length_cons, rpkv_len r]
/-- the display, its pairs read -/
theorem disp_of {ms : M (List AV)} {trs : List (TE × TE)} {σ : L2.St} {H : Hp} {Q : VK}
    (hp : ∀ H R, tAs T.tx X.K W ms σ H (fun vs H' => ∀ ps, flatP ps = vs → R ps H') → tPairs trs σ H R)
    (q : tA T.tx X.K W (do let xs ← ms; let ds ← valsM xs; v1 (ofO (dctD ds))) σ H Q) : tDisp trs σ H Q := by
  intro p np
  obtain ⟨Hs, e, A, R, g⟩ := q
  have ns : Hs p = none := by
    cases z : Hs p with
    | none => rfl
    | some w => have := R.sub _ _ z; rw [np] at this; cases this
  have xo := Ext.laidO (o := .dK []) R.sub np
  refine hp _ _ (at_bind (R.ext xo) (Pst.later g (xo.stp (A := A))) fun vs as e1 Hs1 H1 A1 s1 R1 r1 P1 ps ep => ?_)
  subst ep
  have pA : ∀ i, p ∉ A i := fun i hi => by
    obtain ⟨o, ho, _⟩ := R.own_some hi
    rw [np] at ho; cases ho
  have h1 : H1 p = some (.dK []) := s1.fr p _ upd_same pA (isTab.noc (R.ext xo).tb upd_same trivial)
  have pA1 : ∀ i, p ∉ A1 i := fun i hi => by
    rcases s1.new i p hi with ⟨j, hj⟩ | z
    · exact pA j hj
    · rw [upd_same] at z; cases z
  have n1 : Hs1 p = none := by
    cases z : Hs1 p with
    | none => rfl
    | some w =>
      rcases s1.shn p (by rw [z]; simp) with y | ⟨j, hj⟩ | y
      · exact absurd ns y
      · exact absurd hj (pA j)
      · rw [upd_same] at y; cases y
  refine ⟨h1, ?_⟩
  obtain ⟨ds, rp, P2⟩ := valsM_inv r1 P1.bind
  obtain ⟨d, hd, P3⟩ := ofO_inv (Pst_v1 P2)
  unfold dctD at hd
  obtain ⟨qs, hq, hd⟩ := Option.bind_eq_some_iff.mp hd
  split at hd
  · rename_i hl
    cases hd
    obtain ⟨kvs, rfl, rk⟩ := pairU_rp rp hq
    refine ⟨kvs, rfl, by rw [rpkv_len rk]; exact hl, ?_⟩
    have s2 : Stp A Hs H A1 (upd Hs1 p (.dK (mergeK [] kvs))) (upd H1 p (.dK (mergeK [] kvs))) := {
      hs := fun b w hb => by
        have z : b ≠ p := fun z => by rw [z, ns] at hb; cases hb
        rw [upd_ne z]; exact s1.hs _ _ hb
      fr := fun b w hb na t => by
        have z : b ≠ p := fun z => by rw [z, np] at hb; cases hb
        rw [upd_ne z]; exact s1.fr b w (by rw [upd_ne z]; exact hb) na t
      new := fun i b hb => by
        rcases s1.new i b hb with h | h
        · exact .inl h
        · by_cases z : b = p
          · subst z; rw [upd_same] at h; cases h
          · rw [upd_ne z] at h; exact .inr h
      shn := fun b hb => by
        by_cases z : b = p
        · subst z; exact .inr (.inr np)
        · rw [upd_ne z] at hb
          rcases s1.shn b hb with h | h | h
          · exact .inl h
          · exact .inr (.inl h)
          · rw [upd_ne z] at h; exact .inr (.inr h)
      tb := fun b t h => by
        by_cases z : b = p
        · subst z; rw [upd_same]; simp
        · rw [upd_ne z]; exact s1.tb b t (by rw [upd_ne z]; exact h) }
    have R2 := Rel.fill (o := .dK (mergeK [] kvs)) R1 h1 trivial n1 pA1
    refine P3 _ _ _ _ s2 R2 (.dct (.inl upd_same) (merge_rp (RpKv.up (fun b w hb => ?_) rk) .nil))
    have z : b ≠ p := fun z => by rw [z, n1] at hb; cases hb
    rw [upd_ne z]; exact hb
  · cases hd
end
end Pv

/-! PvX4: len(set(xs)), list(range(..)), dict(pairs). -/
namespace Pv
open PySem PySem.Spec PyProof.Rows L2
variable [TabC]
section
variable {T : Txt} {P : Pr} {k : Nat} {N : List Str} {sc : Scope} {W : WX} {X : Cx}
theorem opB_lenSet {K : PySem.W.Frag} : OpB K (fun vs H Q => ∃ (x : V) (l : Addr) (ns : List Int), vs = [x] ∧ x = .ref l ∧ SqL K H l (ns.map V.int) ∧ ns.Nodup ∧ ns.length ≤ 4000 ∧ Q (.int (ns.length : Nat)) H) (biD .lenSet) := by
  intro Hs H vs ds d Q s R e q
  match ds, e, R with
  | [.list xs], e, R =>
    simp only [biD, Option.bind_eq_some_iff] at e
    obtain ⟨is, h, e⟩ := e
    split at e
    · rename_i c
      cases e
      obtain ⟨x, rfl, ra⟩ := R.one
      obtain ⟨p, vs, rfl, hl, r⟩ := ra.list_inv
      cases toInts_rp h r
      exact ⟨_, p, is, rfl, rfl, sqL_mono s hl, c.1, c.2, q _ _ _ (.refl s) (.int _)⟩
    · cases e
theorem one_of {e : Expr} {ms : M (List AV)} {mv : M AV} {Z : List AV → M AV} (hm : ms = (do let x ← mv; let xs ← (M.ret [] : M (List AV)); M.ret (x :: xs))) {σ : L2.St} {H : Hp} {Q : VK}
    (q : tA T.tx X.K W (do let xs ← ms; Z xs) σ H Q) : tA T.tx X.K W (do let x ← mv; Z [x]) σ H Q := by
  subst hm
  rw [bindA] at q
  have e : (fun x => (do let xs ← (do let xs ← (M.ret [] : M (List AV)); M.ret (x :: xs)); Z xs)) = fun x => Z [x] := by
    funext x
    rw [bindA]; rfl
  rw [e] at q
  exact q
theorem pv_lenSet (C : Cz T P k N sc W X) {e : Expr} {m : M AV} {p p2 q pos : Pos} (hb : ("len" : Str) ∈ T.nb) (hg : isGl sc "len" = true) (hb2 : ("set" : Str) ∈ T.nb) (hg2 : isGl sc "set" = true)
    (ha : PE X e (tA T.tx X.K W m)) (he : starEach [e] X.env = (false, eval e X.env) :: starEach [] X.env) :
    PE X (.Call (.Name "len" p) [.Call (.Name "set" p2) [e] [] q] [] pos) (tA T.tx X.K W (do let x ← m; v1 (opM [x] false (biD .lenSet)))) :=
  (RZ.pe_lenSetI (isGl_gl C.hsc hg) (C.fx.nb _ hb) (isGl_gl C.hsc hg2) (C.fx.nb _ hb2) ha C.calm he).mono fun σ H Q q => by
    obtain ⟨Hs, e, A, R, g⟩ := q
    refine at_bind R g fun x a e1 Hs1 H1 A1 s1 R1 r1 P1 => ?_
    obtain ⟨x', l, ns, e', h1, h2, h3, h4, q⟩ := op_use (fresh := false) (fun h => nomatch h) opB_lenSet R1 (AVrs.one r1) (Pst_v1 P1) fun d v H' Hs' g s' R' rp => g v H' Hs' A1 (s1.trans s') R' rp
    cases e'
    exact ⟨l, ns, h1, h2, h3, h4, q⟩
theorem rgV_rp {K : PySem.W.Frag} {Hs : Hp} (i j : Int) : RpAll K Hs (rgV i j) ((List.range (j - i).toNat).map fun (k : Nat) => .int (i + (k : Int))) := by
  unfold rgV
  induction (List.range (j - i).toNat) with
  | nil => exact .nil
  | cons a l ih => exact .cons (.int _) ih
def rLR : RV := fun vs H Q => (∃ n, vs = [.int n] ∧ RgOk 0 n ∧ ∀ q, H q = none → Q (.ref q) (upd H q (.lst (rgV 0 n)))) ∨ ∃ i j, vs = [.int i, .int j] ∧ RgOk i j ∧ ∀ q, H q = none → Q (.ref q) (upd H q (.lst (rgV i j)))
theorem opA_listRange {K : PySem.W.Frag} : OpA K rLR (biD .listRange) := by
  intro Hs H vs ds d Q s R e q
  match ds, e, R with
  | [.int j], e, R =>
    simp only [biD] at e
    split at e
    · rename_i c
      cases e
      obtain ⟨x, rfl, ra⟩ := R.one
      cases ra.int
      refine .inl ⟨j, rfl, ⟨by omega, by omega, by omega, by omega, by omega⟩, fun p n => ?_⟩
      have x := Ext.laid (o := .lst (rgV 0 j)) s n
      have r := rgV_rp (K := K) (Hs := Hs) 0 j
      have e : ((List.range (j - 0).toNat).map fun (k : Nat) => PyData.int (0 + (k : Int))) = (List.range j.toNat).map fun (k : Nat) => .int (k : Int) := by
        rw [show j - 0 = j by omega]
        congr 1; funext k; congr 1; omega
      rw [e] at r
      exact q _ _ _ x (.lst (.of upd_same) (r.up x.hs))
    · cases e
  | [.int i, .int j], e, R =>
    simp only [biD] at e
    split at e
    · rename_i c
      cases e
      obtain ⟨x, y, rfl, ra, rb⟩ := R.two
      cases ra.int; cases rb.int
      refine .inr ⟨i, j, rfl, ⟨by omega, by omega, by omega, by omega, by omega⟩, fun p n => ?_⟩
      have x := Ext.laid (o := .lst (rgV i j)) s n
      exact q _ _ _ x (.lst (.of upd_same) ((rgV_rp i j).up x.hs))
    · cases e
theorem pv_listRg1 (C : Cz T P k N sc W X) {e : Expr} {m : M AV} {p p2 q pos : Pos} (hb : ("list" : Str) ∈ T.nb) (hg : isGl sc "list" = true) (hb2 : ("range" : Str) ∈ T.nb) (hg2 : isGl sc "range" = true)
    (ha : PE X e (tA T.tx X.K W m)) (he : starEach [e] X.env = (false, eval e X.env) :: starEach [] X.env) :
    PE X (.Call (.Name "list" p) [.Call (.Name "range" p2) [e] [] q] [] pos) (tA T.tx X.K W (do let x ← m; v1 (opM [x] true (biD .listRange)))) :=
  (pe_listRg C.calm (isGl_gl C.hsc hg) (C.fx.nb _ hb) (prg_1 (isGl_gl C.hsc hg2) (C.fx.nb _ hb2) ha he)).mono fun σ H Q q => by
    obtain ⟨Hs, e, A, R, g⟩ := q
    refine at_bind R g fun x a e1 Hs1 H1 A1 s1 R1 r1 P1 => ?_
    rcases op_use (fun _ => opA_listRange) opA_listRange.b R1 (AVrs.one r1) (Pst_v1 P1) fun d v H' Hs' g s' R' rp => g v H' Hs' A1 (s1.trans s') R' rp with ⟨n, e', h, q⟩ | ⟨_, _, e', _⟩
    · cases e'; exact ⟨n, rfl, h, q⟩
    · cases e'
theorem pv_listRg2 (C : Cz T P k N sc W X) {e f : Expr} {m m2 : M AV} {p p2 q pos : Pos} (hb : ("list" : Str) ∈ T.nb) (hg : isGl sc "list" = true) (hb2 : ("range" : Str) ∈ T.nb) (hg2 : isGl sc "range" = true)
    (ha : PE X e (tA T.tx X.K W m)) (hf : PE X f (tA T.tx X.K W m2)) (he : starEach [e, f] X.env = (false, eval e X.env) :: starEach [f] X.env) (he2 : starEach [f] X.env = (false, eval f X.env) :: starEach [] X.env) (hp : (backTo q (starEach [f] X.env)).any (·.1) = false) :
    PE X (.Call (.Name "list" p) [.Call (.Name "range" p2) [e, f] [] q] [] pos) (tA T.tx X.K W (do let x ← m; let y ← m2; v1 (opM [x, y] true (biD .listRange)))) :=
  (pe_listRg C.calm (isGl_gl C.hsc hg) (C.fx.nb _ hb) (prg_2 (isGl_gl C.hsc hg2) (C.fx.nb _ hb2) ha hf he he2 hp)).mono fun σ H Q q => by
    obtain ⟨Hs, e, A, R, g⟩ := q
    refine at_bind R g fun x a e1 Hs1 H1 A1 s1 R1 r1 P1 => ?_
    refine at_bind R1 P1 fun y b e2 Hs2 H2 A2 s2 R2 r2 P2 => ?_
    rcases op_use (fun _ => opA_listRange) opA_listRange.b R2 (AVrs.two (r1.up s2.hs) r2) (Pst_v1 P2) fun d v H' Hs' g s' R' rp => g v H' Hs' A2 ((s1.trans s2).trans s') R' rp with ⟨n, e', _⟩ | ⟨i, j, e', h, q⟩
    · cases e'
    · cases e'; exact ⟨i, j, rfl, rfl, h, q⟩
def rDP (K : PySem.W.Frag) : RV := fun xs H Q => ∃ (a : Addr) (ps : List Addr) (kvs : List (Key × V)), xs = [.ref a] ∧ SqL K H a (ps.map V.ref) ∧ Paired (fun p kv => SqT K H p [kV kv.1, kv.2]) ps kvs ∧
    ∀ p, H p = none → Q (.ref p) (upd H p (.dK (mergeK [] kvs)))
theorem pairT_rp {K : PySem.W.Frag} {Hs H : Hp} (s : Same Hs H) : ∀ {vs : List V} {ds : List D} {qs : List (D × D)}, RpAll K Hs vs ds → pairT ds = some qs → ∃ (ps : List Addr) (kvs : List (Key × V)), vs = ps.map V.ref ∧ Paired (fun p kv => SqT K H p [kV kv.1, kv.2]) ps kvs ∧ RpKv K Hs kvs qs
  | [], _, qs, .nil, h => by
    cases h
    exact ⟨[], [], rfl, .nil, .nil⟩
  | v :: vs, d :: ds, qs, .cons a r, h => by
    have ex : ∃ x y, d = .tuple [x, y] := by
      unfold pairT at h
      split at h
      · rename_i z; cases z
      · rename_i z; cases z; exact ⟨_, _, rfl⟩
      · cases h
    obtain ⟨x, y, rfl⟩ := ex
    simp only [pairT] at h
    split at h
    · rename_i hk
      obtain ⟨kk, rfl, kv⟩ := keyOk_of (K := K) hk
      obtain ⟨q, h1, rfl⟩ := Option.map_eq_some_iff.mp h
      obtain ⟨ps, kvs, rfl, p1, p2⟩ := pairT_rp s r h1
      obtain ⟨t, us, rfl, ht, ru⟩ := a.tuple_inv
      cases ru with
      | cons rx ru => cases ru with
        | cons ry ru =>
          cases ru
          rw [kv rx] at ht
          exact ⟨t :: ps, (kk, _) :: kvs, rfl, .cons (sqT_mono s ht) p1, .cons ry p2⟩
    · cases h
theorem opB_dict1 {K : PySem.W.Frag} : OpB K (rDP K) (biD .dict1) := by
  intro Hs H vs ds d Q s R e q
  match ds, e, R with
  | [.list xs], e, R =>
    simp only [biD, Option.bind_eq_some_iff] at e
    obtain ⟨qs, h, e⟩ := e
    cases e
    obtain ⟨x, rfl, ra⟩ := R.one
    obtain ⟨p, vs, rfl, hl, r⟩ := ra.list_inv
    obtain ⟨ps, kvs, rfl, p1, p2⟩ := pairT_rp s r h
    refine ⟨p, ps, kvs, rfl, sqL_mono s hl, p1, fun l n => ?_⟩
    have x := Ext.laid (o := .dK (mergeK [] kvs)) s n
    exact q _ _ _ x (.dct (.inl upd_same) ((merge_rp p2 .nil).up x.hs))
theorem pv_dict1 (C : Cz T P k N sc W X) {e : Expr} {m : M AV} {p pos : Pos} (hb : ("dict" : Str) ∈ T.nb) (hg : isGl sc "dict" = true)
    (ha : PE X e (tA T.tx X.K W m)) (he : starEach [e] X.env = (false, eval e X.env) :: starEach [] X.env) :
    PE X (.Call (.Name "dict" p) [e] [] pos) (tA T.tx X.K W (do let x ← m; v1 (opM [x] false (biD .dict1)))) :=
  (pe_callTy (call_dictP C.calm) (isGl_gl C.hsc hg) (C.fx.nb _ hb) (by decide +kernel) (pa_cons ha pa_nil he) (by decide) (by decide) he rfl).mono fun σ H Q q => by
    obtain ⟨Hs, e, A, R, g⟩ := q
    refine at_bind R g fun x a e1 Hs1 H1 A1 s1 R1 r1 P1 => ?_
    exact op_use (r := rDP X.K) (fresh := false) (fun h => nomatch h) opB_dict1 R1 (AVrs.one r1) (Pst_v1 P1) fun d v H' Hs' g s' R' rp => g v H' Hs' A1 (s1.trans s') R' rp
end
end Pv

/-! PvLam: sorted by a lambda's keys. -/
namespace Pv
open PySem PySem.Spec PyProof.Rows L2
variable [TabC]
section
variable {prog : Program} {w : World} {A : Around} {s : Shared} {env : Env} {a : Str} {v : Value} {m : Str → Option Value} {E : Value → Shared → Prop}
theorem nm_ld {pos : Pos} {Q : Value → Shared → Prop} (hp : plainName a = true) (hk : env.scope.kind = .function) (hl : env.kindOf a = some .local) (hn : s.heap.Ns env.locals m) (hv : m a = some v) (h : Q v s) : wpAny (model prog w) A (eval (.Name a pos) env) Q E s :=
  wpAny_Name (wpAny_loadName_local hk hl hn hv h) (plainName_1 hp)
theorem reads_tup {h : Heap} {d : D} {ds : List D} {v : Value} {as : List Addr} (r : Reads h v (.tuple (d :: ds)) as) : ∃ t x l bs cs, v = .ref t ∧ IsTup h t (x :: l).toArray ∧ Reads h x d bs ∧ ReadsAll h l ds cs := by
  cases r with
  | tuple e1 e2 e3 ra =>
    rename_i t o vs n
    obtain ⟨vl⟩ := vs
    cases ra with
    | cons r1 r2 => exact ⟨t, _, _, _, _, rfl, ⟨o, e1, e2, n, e3⟩, r1, r2⟩
theorem reads_int {h : Heap} {i : Int} {v : Value} {as : List Addr} (r : Reads h v (.int i) as) : ∃ t, v = .int i t := by
  cases r; exact ⟨_, rfl⟩
theorem ix_ld {p1 p2 p3 : Pos} {kc j : Nat} {t : Addr} {l : List Value} {x : Value} {Q : Value → Shared → Prop} (hp : plainName a = true) (hk : env.scope.kind = .function) (hl : env.kindOf a = some .local) (hn : s.heap.Ns env.locals m) (hv : m a = some (.ref t))
    (ht : IsTup s.heap t l.toArray) (hj : j < 1000) (hx : l[j]? = some x) (h : Q x { s with toks := s.toks + 1 }) : wpAny (model prog w) A (eval (.Subscript (.Name a p1) (.Constant (.int j) kc p2) p3) env) Q E s := by
  refine Subscript_ (nm_ld hp hk hl hn hv (wpAny_Constant_int ?_))
  have hlt := (List.getElem?_eq_some_iff.mp hx).1
  refine item_tupleL (j := j) ht (by omega) (by omega) ?_ hx h
  unfold seqIndex?
  simp
  omega
theorem ky_run {k : Ky} {body : Expr} {d : D} {as : List Addr} (hb : kyB a k body = true) (hp : plainName a = true) (hk : env.scope.kind = .function) (hl : env.kindOf a = some .local) (hn : s.heap.Ns env.locals m) (hv : m a = some v)
    (rd : Reads s.heap v d as) (ok : kyOk k d = true) : wpAny (model prog w) A (eval body env) (PySem.W.KeyPure (kyD k d) s) E s := by
  cases k with
  | at0 =>
    unfold kyB at hb
    simp only at hb
    split at hb
    · simp only [Bool.and_eq_true, decide_eq_true_eq] at hb
      obtain ⟨rfl, rfl⟩ := hb
      unfold kyOk at ok
      split at ok
      · rename_i i r he
        obtain ⟨t, x, l, bs, cs, rfl, ht, r1, r2⟩ := reads_tup rd
        obtain ⟨tk, rfl⟩ := reads_int r1
        refine ix_ld (j := 0) hp hk hl hn hv ht (by omega) rfl ?_
        exact ⟨s.heap, s.toks + 1, rfl, fun _ _ e => e, .int _ _⟩
      · rename_i he; cases he
      · cases ok
    · cases hb
  | nw =>
    unfold kyB at hb
    simp only at hb
    split at hb
    · simp only [Bool.and_eq_true, decide_eq_true_eq] at hb
      obtain ⟨⟨⟨⟨⟨rfl, rfl⟩, rfl⟩, rfl⟩, rfl⟩, rfl⟩ := hb
      unfold kyOk at ok
      split at ok
      · rename_i he; cases he
      · rename_i i j he
        obtain ⟨t, x, l, bs, cs, rfl, ht, r1, r2⟩ := reads_tup rd
        obtain ⟨tk, rfl⟩ := reads_int r1
        cases r2 with
        | cons r3 r4 =>
          obtain ⟨tk2, rfl⟩ := reads_int r3
          refine wpAny_Tuple_spliced (Calls.spliced_cons (ix_ld (j := 0) hp hk hl hn hv ht (by omega) rfl ?_))
          refine Calls.spliced_cons (wpAny_BinOp (wpAny_Constant_int (ix_ld (j := 1) hp hk hl hn hv ht (by omega) rfl (sub_int ?_))))
          refine Calls.spliced_nil ⟨(show 2 ≤ sizeLine by rw [sizeLine_eq]; omega), ?_⟩
          refine ⟨_, _, rfl, fun b o e => Heap.get?_push_of_some _ e, ?_⟩
          exact .tuple (as := [] ++ ([] ++ [])) (Heap.get?_push_size _ rfl) rfl rfl (.cons (.int _ _) (.cons (.int _ _) .nil))
      · cases ok
    · cases hb
/-- the lambda called -/
theorem ky_call {k : Ky} {f c' : Addr} {q : Str} {params : Arguments} {body : Expr} {scope : Scope} {cl : List (Str × Addr)} {pm ctv : Value} {d : D} {as : List Addr} (hroom : A.depth < recursionLimit)
    (hf : s.heap.get? f = some (PySem.W.kla_obj "<lambda>" q params body scope cl pm c' ctv)) (hcd : s.heap.CodeRec (.ref c') q) (lim : s.heap.NoLimit) (hb : kyB a k body = true) (hp : plainName a = true)
    (hpa : bindArgs (PySem.W.kla_fn "<lambda>" q params body scope cl pm (.ref c') ctv) ⟨[v], []⟩ = pure [(a, v)]) (hk : scope.kind = .function) (hco : scope.isCoroutine = false) (hge : scope.isGenerator = false) (hcell : ∀ x ∈ scope.names, x.2 ≠ .cell) (hl : scope.names.lookup a = some .local)
    (rd : Reads s.heap v d as) (ok : kyOk k d = true) : wpAny (model prog w) A (call (.ref f) [v]) (PySem.W.KeyPure (kyD k d) s) (fun _ _ => False) s := by
  refine wpAny_call ?_
  refine PySem.W.kla_callFunE hroom hf rfl hco hge rfl hcd ?_
  rw [hpa]
  refine wpAny_pure (wpAny_newFunctionEnv hcell (fun x hx => ?_) (fun h₁ hns hsb => ⟨lim.fresh _ hsb, ?_⟩) hk)
  · rcases List.mem_singleton.mp hx with rfl
    exact hl
  · have kp : ∀ b o, s.heap.get? b = some o → h₁.get? b = some o := fun b o e => hsb.extBut b o (Nat.ne_of_lt (Heap.lt_size e)) (Heap.get?_push_of_some _ e)
    refine PySem.W.kla_codeExpr (wpAny_mono (ky_run (m := fun x => [(a, v)].reverse.lookup x) (as := as) hb hp hk hl hns (by simp) (PyProof.Rows.Reads.keeps kp rd) ok) (fun u s' hq => ?_) fun e s' hq => hq)
    obtain ⟨h', tk, rfl, k2, r2⟩ := hq
    exact ⟨h', tk, rfl, fun b o e => k2 _ _ (kp _ _ e), r2⟩
end
/-! ### the lambda is made -/
section
variable {X : Cx} {pins : List (Addr × Obj)} {σ : L2.St} {H : Hp} {s : Shared}
theorem code_nt {c : Addr} {q : Str} {ps : Array Value} : LamX.CodeO c q ≠ HO.tbl ps := LamX.codeO_ne ps
/-- its code object is new, or the table tells it; all but the table stays -/
theorem lam_mk {c P : Addr} {params : Arguments} {body : Expr} {scope : Scope} {pos : Pos} {E : Value → Shared → Prop} {Q : Value → Shared → Prop} (I : Inv X pins σ H s) (tb : LamX.TabB X.base X.mg c P) (hcode : X.env.code = .ref c)
    (mem : (P, X.env.qual ++ "<lambda>") ∈ TabC.T) (uq : ∀ p ∈ TabC.T, p.1 = P → p.2 = X.env.qual ++ "<lambda>") (tabs : LamX.Tabs TabC.T H) (dfl : defaultsOf params X.env = ([], [])) (fr : ∀ y ∈ scope.names, y.2 = .free → ∃ c, X.env.cells.lookup y.1 = some c)
    (h : ∀ (f cc : Addr) (pm ctv : Value) (H1 : Hp) (s1 : Shared), Inv X pins σ H1 s1 → (∀ b o, ¬ isTab b → H b = some o → H1 b = some o) → LamX.Tabs TabC.T H1 →
      s1.heap.get? f = some (PySem.W.kla_obj "<lambda>" (X.env.qual ++ "<lambda>") params body scope (cloFrom X.env.cells scope.names []) pm cc ctv) → H1 cc = some (LamX.CodeO cc (X.env.qual ++ "<lambda>")) → Q (.ref f) s1) :
    wpAny (model X.prog X.w) X.A (eval (.Lambda params body scope pos) X.env) Q E s := by
  obtain ⟨ps, tP, tr, among⟩ := tabs _ mem
  have inh : s.heap.get? P = some { cls := .none, data := .fields ps } := I.hok P _ tP
  have bmP := tb.bm.keeps I.bk
  have glob := I.mod.glob.keeps I.bk
  have code := tb.code.keeps I.bk
  refine PySem.W.kla_eval dfl ?_
  rcases hq : codeAmong pos ps.toList with _ | cv
  · refine PySem.W.kla_makeFunction (c := c) (P := P) (ps := ps) (mg := X.mg) (closure_ok fr) I.ok.glob glob hcode code inh tr hq tb.gP bmP fun cc ctv h2 tk kept cge clt rec tabo => ?_
    obtain ⟨c2, oc, us, t, eq2, at2, dat2, nm2⟩ := rec
    cases eq2
    have cN : H cc = none := I.hok.fresh cge
    have PN : P ≠ cc := fun z => by rw [← z, tP] at cN; cases cN
    let ob : Obj := PySem.W.kla_obj "<lambda>" (X.env.qual ++ "<lambda>") params body scope (cloFrom X.env.cells scope.names []) ((X.mg "__name__").getD .none) cc ctv
    have J := LamX.inv_table (c := cc) (q := X.env.qual ++ "<lambda>") (t' := tk) (more := #[rawInt pos.line, rawInt pos.col, .ref cc]) (h' := h2.push ob) I tP (fun b o n e => Heap.get?_push_of_some _ (kept b o n e)) (Heap.get?_push_of_some _ tabo) cge
      ⟨oc, us, t, Heap.get?_push_of_some _ at2, dat2, nm2⟩
    let H1 : Hp := upd (upd H P (.tbl (ps ++ #[rawInt pos.line, rawInt pos.col, .ref cc]))) cc (LamX.CodeO cc (X.env.qual ++ "<lambda>"))
    have stay : ∀ b o, b ≠ P → H b = some o → H1 b = some o := fun b o n e => by
      show upd (upd H P _) cc _ b = _
      rw [upd_ne (fun z => by rw [z, cN] at e; cases e), upd_ne n]
      exact e
    have toL : (ps ++ #[rawInt pos.line, rawInt pos.col, .ref cc]).toList = ps.toList ++ [rawInt pos.line, rawInt pos.col, .ref cc] := by simp
    refine h h2.objs.size cc _ ctv H1 _ J (fun b o n e => stay b o (fun z => n ⟨_, mem, z.symm⟩) e) (fun p hp => ?_) (Heap.get?_push_size _ rfl) upd_same
    by_cases z : p.1 = P
    · have zq := uq p hp z
      rw [z, zq]
      refine ⟨_, (upd_ne PN).trans upd_same, by rw [toL]; exact PySem.TriplesOk_snoc _ _ _ _ tr, fun pp cv hh => ?_⟩
      rw [toL] at hh
      rcases LamX.among_app _ tr hh with y | y
      · obtain ⟨c0, y1, y2⟩ := among pp cv y
        exact ⟨c0, y1, stay _ _ (fun z => by rw [z, tP] at y2; exact code_nt (Option.some.inj y2).symm) y2⟩
      · exact ⟨cc, y, upd_same⟩
    · obtain ⟨ps2, y1, y2, y3⟩ := tabs p hp
      refine ⟨ps2, stay _ _ z y1, y2, fun pp cv hh => ?_⟩
      obtain ⟨c0, y4, y5⟩ := y3 pp cv hh
      exact ⟨c0, y4, stay _ _ (fun z => by rw [z, tP] at y5; exact code_nt (Option.some.inj y5).symm) y5⟩
  · obtain ⟨cc, rfl, ho⟩ := among pos cv hq
    exact PySem.W.kla_makeFunctionHit (c := c) (P := P) (ps := ps) (mg := X.mg) (closure_ok fr) I.ok.glob glob hcode code inh tr hq bmP fun ctv h2 tk kept sz =>
      h h2.objs.size cc _ ctv H _ (I.kept (fun b o e => Heap.get?_push_of_some _ (kept b o e))) (fun _ _ _ e => e) tabs (Heap.get?_push_size _ rfl) ho
end
theorem bind1 {name q : Str} {a : Str} {ap : Pos} {body : Expr} {scope : Scope} {cl : List (Str × Addr)} {pm cdv ctv v : Value} :
    bindArgs (PySem.W.kla_fn name q ⟨[], [⟨a, none, ap⟩], none, [], [], none, []⟩ body scope cl pm cdv ctv) ⟨[v], []⟩ = pure [(a, v)] := by
  have l1 : List.lookup a [(a, v)] = some v := by simp
  unfold bindArgs
  simp [seqItems?, l1]
  rfl
theorem lamB_inv {a : Str} {ps : Arguments} {sc : Scope} (h : lamB a ps sc = true) : plainName a = true ∧ (∃ ap, ps = ⟨[], [⟨a, none, ap⟩], none, [], [], none, []⟩) ∧ sc.kind = .function ∧ sc.isCoroutine = false ∧ sc.isGenerator = false ∧ sc.names = [(a, .local)] := by
  unfold lamB at h
  simp only [Bool.and_eq_true, Bool.not_eq_true'] at h
  obtain ⟨⟨h1, h2⟩, h3, h4, h5, h6⟩ := h
  refine ⟨h1, ?_, ?_, h4, h5, ?_⟩
  · split at h2
    · rw [of_decide_eq_true h2]; exact ⟨_, rfl⟩
    · cases h2
  · revert h3
    cases sc.kind <;> intro h3 <;> first | rfl | cases h3
  · split at h6
    · rename_i b e
      rw [e, of_decide_eq_true h6]
    · cases h6
theorem kyD_alike {k : Ky} {d d' : D} (h : kyOk k d = true) (h' : kyOk k d' = true) : PySem.W.alike (kyD k d) (kyD k d') = true := by
  cases k with
  | at0 =>
    match d, d', h, h' with
    | .tuple (.int _ :: _), .tuple (.int _ :: _), _, _ => rfl
  | nw =>
    match d, d', h, h' with
    | .tuple [.int _, .int _], .tuple [.int _, .int _], _, _ => rfl
theorem kyD_depth {k : Ky} {d : D} (h : kyOk k d = true) : (kyD k d).depth ≤ 1 := by
  cases k with
  | at0 =>
    match d, h with
    | .tuple (.int _ :: _), _ => exact Nat.zero_le _
  | nw =>
    match d, h with
    | .tuple [.int _, .int _], _ => simp [kyD, PyData.depth, PyData.depthAll]
theorem kyD_sortable {k : Ky} {ds : List D} (h : ∀ d ∈ ds, kyOk k d = true) : PySem.W.Sortable (ds.map (kyD k)) := by
  cases k with
  | at0 =>
    refine .inr fun d hd => ?_
    obtain ⟨d', h1, rfl⟩ := List.mem_map.mp hd
    have h2 := h d' h1
    match d', h2 with
    | .tuple (.int i :: _), _ => exact ⟨(nomatch ·), fun xs => (nomatch ·)⟩
  | nw =>
    refine .inl fun d hd => ?_
    obtain ⟨d', h1, rfl⟩ := List.mem_map.mp hd
    have h2 := h d' h1
    match d', h2 with
    | .tuple [.int _, .int _], _ => exact ⟨_, _, rfl⟩
def tSortK (K : PySem.W.Frag) (k : Ky) (te : TE) : TE := fun σ H Q => te σ H fun x H1 => LamX.Tabs TabC.T H1 ∧ ∃ (l : Addr) (xs : List V) (Hs : Hp) (ds : List D), x = .ref l ∧ SqL K H1 l xs ∧ Same Hs H1 ∧ (∀ b, isTab b → Hs b = none) ∧ RpAll K Hs xs ds ∧ ds.all (kyOk k) = true ∧
  ∀ (H2 : Hp) ys p, (∀ b o, ¬ isTab b → H1 b = some o → H2 b = some o) → LamX.Tabs TabC.T H2 → RpAll K Hs ys (ds.mergeSort (PySem.W.dataLe false (kyD k))) → H2 p = none → Q (.ref p) (upd H2 p (.lst ys))
theorem pe_sortK {X : Cx} {e body : Expr} {a : Str} {k : Ky} {params : Arguments} {scope : Scope} {te : TE} {p kpos lpos pos : Pos} (hk : SysK X.K) (hu : X.A.units + 65 < cLine) (hroom : X.A.depth < recursionLimit) (lm : LamT X)
    (hg : Gl X "sorted") (hm : X.mg "sorted" = none) (ha : PE X e te) (hs : starEach [e] X.env = (false, eval e X.env) :: starEach [] X.env) (hlb : lamB a params scope = true) (hb : kyB a k body = true) :
    PE X (.Call (.Name "sorted" p) [e] [⟨some "key", .Lambda params body scope lpos, kpos⟩] pos) (tSortK X.K k te) := by
  obtain ⟨c, P, hcode, tb, mem, uq⟩ := lm
  obtain ⟨hp, ⟨ap, rfl⟩, hki, hco, hge, hna⟩ := lamB_inv hlb
  refine ⟨fun pins s σ H Q I h => ?_⟩
  obtain ⟨o, ek, ec⟩ := hk
  have nocell : ∀ y ∈ scope.names, y.2 = NameKind.local := fun y hy => by
    rw [hna] at hy
    rcases List.mem_singleton.mp hy with rfl
    rfl
  have boot : bootBuiltins "sorted" = some (.builtin "sorted") := by decide +kernel
  let Z : V → Hp → Prop := fun x H1 => LamX.Tabs TabC.T H1 ∧ ∃ (l : Addr) (xs : List V) (Hs : Hp) (ds : List D), x = .ref l ∧ SqL X.K H1 l xs ∧ Same Hs H1 ∧ (∀ b, isTab b → Hs b = none) ∧ RpAll X.K Hs xs ds ∧ ds.all (kyOk k) = true ∧
    ∀ (H2 : Hp) ys p, (∀ b o, ¬ isTab b → H1 b = some o → H2 b = some o) → LamX.Tabs TabC.T H2 → RpAll X.K Hs ys (ds.mergeSort (PySem.W.dataLe false (kyD k))) → H2 p = none → Q (.ref p) (upd H2 p (.lst ys))
  have h : te σ H Z := h
  let Za : List V → Hp → Prop := fun vs H1 => match vs with
    | [x] => Z x H1
    | _ => False
  refine wpAny_Call_Name_kw (ld_blt I hg hm boot ?_)
  refine PyProof.Rows.callWith_kw (thn ((pa_cons ha pa_nil hs).run pos pins s σ H Za I h) fun us s1 ⟨vs, H1, I1, r1, q1⟩ => ?_) (by rw [hs]; rfl) (by rw [hs]; rfl)
  match vs, q1, r1 with
  | [x], q1, r1 =>
    obtain ⟨t1, l, xs, Hs, ds, rfl, hl, sm, nt, rp, ok, q⟩ := (show Z x H1 from q1)
    rw [Vals.ref1 r1]
    refine wpAny_evalAll_cons (wpAny_bind (lam_mk I1 tb hcode mem uq t1 rfl (fun y hy e => by rw [nocell y hy] at e; cases e) fun f cc pm ctv H2 s2 I2 st t2 hf hcc => wpAny_bind (wpAny_standAt (wpAny_pure (wpAny_evalAll_nil ?_)))))
    have hl2 : SqL X.K H2 l xs := by
      have nm : ∀ o, H1 l = some o → (∀ ps, o ≠ .tbl ps) → H2 l = some o := fun o e n => st l o (fun z => by
        obtain ⟨ps, e2⟩ := z.at t1
        rw [e] at e2
        exact n ps (Option.some.inj e2)) e
      rcases hl with (h | ⟨o, h⟩) | h
      · exact .inl (.inl (nm _ h fun _ z => by cases z))
      · exact .inl (.inr ⟨o, nm _ h fun _ z => by cases z⟩)
      · exact .inr h
    have sm2 : Same Hs H2 := fun b u e => st b u (fun z => by rw [nt b z] at e; cases e) (sm b u e)
    obtain ⟨its, rv, pl, hz⟩ := I2.list hl2
    have e := each_of rv rp
    have es := zip_snd rp
    have okd : ∀ d ∈ ds, kyOk k d = true := List.all_eq_true.mp ok
    have okp : ∀ z ∈ xs.zip ds, kyOk k z.2 = true := fun z hz => okd _ (by rw [← es]; exact List.mem_map_of_mem hz)
    have em : (xs.zip ds).map (fun z : V × D => kyD k z.2) = ds.map (kyD k) := by
      have z : ((xs.zip ds).map (·.2)).map (kyD k) = ds.map (kyD k) := by rw [es]
      rw [List.map_map] at z
      exact z
    have lz : (xs.zip ds).length = xs.length := by rw [List.length_zip, ← rp.length, Nat.min_self]
    have lim := I2.nolimit
    have crec := NdefX.codeO_at I2.hok hcc
    refine PySem.W.sorted_key_data (b := false) (fun z : V × D => kyD k z.2) pl.isList e (fun d hd d' hd' => ?_) (by rw [em]; exact kyD_sortable okd) (by rw [lz]; exact hz) (fun z hz => ?_) (ksk_s1 _ _) (fun _ => ksk_l1 _ _) (fun _ => ksk_t1 _ _) (fun v z hz hm h tk kp => ?_) fun out c h' tk kp fre hD hlen eo => ?_
    · obtain ⟨z, hz, rfl⟩ := List.mem_map.mp hd
      obtain ⟨z', hz', rfl⟩ := List.mem_map.mp hd'
      exact kyD_alike (okp z hz) (okp z' hz')
    · have := kyD_depth (okp z hz)
      omega
    · obtain ⟨as, rd, _⟩ := Rp.reads I2 ⟨o, I2.kIn _ _ ek, ec⟩ z.2 z.1 v (hz.2.up sm2) hz.1
      obtain ⟨c1, oc, us', t, q1, q2, q3, q4⟩ := crec
      exact ky_call (A := X.A.in1.in1) (s := { s2 with heap := h, toks := tk }) (as := as) hroom (kp _ _ hf) ⟨c1, oc, us', t, q1, kp _ _ q2, q3, q4⟩ (lim.keeps kp) hb hp bind1 hki hco hge (fun y hy z => by rw [nocell y hy] at z; cases z) (by rw [hna]; simp) (PyProof.Rows.Reads.keeps kp rd) (okp z hm)
    · obtain ⟨v1, r1⟩ := each_to eo
      have ed : (((xs.zip ds).mergeSort (PySem.W.dataLe false fun z : V × D => kyD k z.2)).map (·.2)) = ds.mergeSort (PySem.W.dataLe false (kyD k)) := by
        have z := sort_snd (PySem.W.dataLe false (kyD k)) (xs.zip ds)
        rw [es] at z
        exact z
      rw [ed] at r1
      have hlen2 : (((xs.zip ds).mergeSort (PySem.W.dataLe false fun z : V × D => kyD k z.2)).map (·.1)).length ≤ sizeLine := by
        rw [List.length_map, List.length_mergeSort, lz]; exact hz
      exact ⟨.ref _, upd H2 (s2.heap.objs.size + 1) (.lst _), I2.laid (h' := h') (t' := tk) kp (Nat.le_succ _) ⟨hlen2, out, c, v1, hD⟩, rfl, q _ _ _ st t2 r1 (I2.hok.fresh (Nat.le_succ _))⟩
/-! ### the readings -/
theorem srtK_inv {K : PySem.W.Frag} {Hs H : Hp} {k : Ky} {vs : List V} {ds : List D} {d : D} (s : Same Hs H) (R : RpRs K Hs H vs ds) (e : biD (.srtK k) ds = some d) :
    ∃ l xs ds', vs = [.ref l] ∧ SqL K H l xs ∧ RpAll K Hs xs ds' ∧ ds'.all (kyOk k) = true ∧ d = .list (ds'.mergeSort (PySem.W.dataLe false (kyD k))) := by
  match ds, e, R with
  | [.list xs], e, R =>
    have e : srtKD k xs = some d := e
    obtain ⟨x, rfl, ra⟩ := R.one
    obtain ⟨p, vs, rfl, hl, r⟩ := ra.list s
    unfold srtKD at e
    split at e
    · rename_i ok
      cases e
      exact ⟨p, vs, xs, rfl, hl, r, ok, rfl⟩
    · cases e
section
variable {K : PySem.W.Frag} {σ : L2.St} {Hs H : Hp} {e : En} {A : Nat → List Addr}
/-- the tables alone change -/
theorem Rel.tabS {H2 : Hp} (R : Rel K σ Hs H e A) (st : ∀ b o, ¬ isTab b → H b = some o → H2 b = some o) (t : LamX.Tabs TabC.T H2) : Rel K σ Hs H2 e A ∧ Stp A Hs H A Hs H2 := by
  refine ⟨⟨R.len, fun b u h => st b u (fun z => by rw [R.nt b z] at h; cases h) (R.sub b u h), R.sh, fun i m d h => ?_, R.nd, R.dj, R.fr, R.em, t, R.nt⟩, Same.refl _, fun a o h _ z => st a o z h, fun i a h => .inl ⟨i, h⟩, fun a h => .inl h, fun a z _ => ?_⟩
  · obtain ⟨v, h1, h2⟩ := R.ow i m d h
    refine ⟨v, h1, Own.mono (Same.refl _) m (fun b hb w hw => st b w (fun z => ?_) hw) h2⟩
    obtain ⟨o, q1, q2⟩ := R.own_some hb
    exact isTab.noc R.tb q1 q2 z
  · obtain ⟨ps, q⟩ := z.at t
    rw [q]; simp
theorem new_own {p : Addr} {ys : List V} {dys : List D} (R : Rel K σ Hs H e A) (n : H p = none) (r : RpAll K Hs ys dys) :
    Stp A Hs H A Hs (upd H p (.lst ys)) ∧ Rel K σ Hs (upd H p (.lst ys)) e A ∧ Own K Hs (upd H p (.lst ys)) 1 (.ref p) (.list dys) [p] ∧ Fre A H A Hs [p] := by
  have xo := Ext.laidO (o := .lst ys) R.sub n
  refine ⟨xo.stp, R.ext xo, own1 upd_same r, by simp, fun b hb => ?_, fun j b hb hj => ?_, fun b hb => ?_⟩
  · rw [List.mem_singleton.mp hb]
    cases z : Hs p with
    | none => rfl
    | some w => have := R.sub _ _ z; rw [n] at this; cases this
  · rw [List.mem_singleton.mp hb] at hj
    obtain ⟨o, ho, _⟩ := R.own_some hj
    rw [n] at ho; cases ho
  · rw [List.mem_singleton.mp hb]; exact .inr n
end
section
variable {T : Txt} {P : Pr} {k : Nat} {N : List Str} {sc : Scope} {W : WX} {X : Cx}
theorem pv_srtK (C : Cz T P k N sc W X) (lm : LamT X) {e body : Expr} {a : Str} {ky : Ky} {params : Arguments} {scope : Scope} {m : M AV} {p kpos lpos pos : Pos} (hb : ("sorted" : Str) ∈ T.nb) (hg : isGl sc "sorted" = true)
    (ha : PE X e (tA T.tx X.K W m)) (he : starEach [e] X.env = (false, eval e X.env) :: starEach [] X.env) (hl : lamB a params scope = true) (hk : kyB a ky body = true) :
    PE X (.Call (.Name "sorted" p) [e] [⟨some "key", .Lambda params body scope lpos, kpos⟩] pos) (tA T.tx X.K W (do let x ← m; v1 (opM [x] true (biD (.srtK ky))))) :=
  (pe_sortK C.fx.sys C.hu (by have := C.room.dp; omega) lm (isGl_gl C.hsc hg) (C.fx.nb _ hb) ha he hl hk).mono fun σ H Q q => by
    obtain ⟨Hs, e, A, R, g⟩ := q
    refine at_bind R g fun x a e1 Hs1 H1 A1 s1 R1 r1 P1 => ?_
    obtain ⟨ds, d, h1, h2, h3⟩ := opM_roots (sorted_mut (.inr (.inr (.inr ⟨ky, rfl⟩)))) R1 (AVrs.one r1) (Pst_v1 P1)
    obtain ⟨l, xs, ds', e', hs, rp, ok, rfl⟩ := srtK_inv R1.sub h1 h2
    cases e'
    refine ⟨R1.tb, l, xs, Hs1, ds', rfl, hs, R1.sub, R1.nt, rp, ok, fun H2 ys p st t ry n => ?_⟩
    obtain ⟨R2, s2⟩ := R1.tabS st t
    have x := Ext.laid (o := .lst ys) R2.sub n
    exact h3 _ _ _ A1 ((s1.trans s2).trans x.stp) (R2.ext x) (.lst (.of upd_same) (ry.up x.hs))
theorem pv_wsrtK (C : Cz T P k N sc W X) (lm : LamT X) {e body : Expr} {a : Str} {ky : Ky} {params : Arguments} {scope : Scope} {m : M AV} {p kpos lpos pos : Pos} (hb : ("sorted" : Str) ∈ T.nb) (hg : isGl sc "sorted" = true)
    (ha : PE X e (tA T.tx X.K W m)) (he : starEach [e] X.env = (false, eval e X.env) :: starEach [] X.env) (hl : lamB a params scope = true) (hk : kyB a ky body = true) :
    PE X (.Call (.Name "sorted" p) [e] [⟨some "key", .Lambda params body scope lpos, kpos⟩] pos) (tWd T.tx X.K W 1 (do let x ← m; opM [x] true (biD (.srtK ky)))) :=
  (pe_sortK C.fx.sys C.hu (by have := C.room.dp; omega) lm (isGl_gl C.hsc hg) (C.fx.nb _ hb) ha he hl hk).mono fun σ H Q q => by
    obtain ⟨Hs, e, A, R, g⟩ := q
    refine at_bind R g fun x a e1 Hs1 H1 A1 s1 R1 r1 P1 => ?_
    obtain ⟨ds, d, h1, h2, h3⟩ := opM_roots (sorted_mut (.inr (.inr (.inr ⟨ky, rfl⟩)))) R1 (AVrs.one r1) P1
    obtain ⟨l, xs, ds', e', hs, rp, ok, rfl⟩ := srtK_inv R1.sub h1 h2
    cases e'
    refine ⟨R1.tb, l, xs, Hs1, ds', rfl, hs, R1.sub, R1.nt, rp, ok, fun H2 ys p st t ry n => ?_⟩
    obtain ⟨R2, s2⟩ := R1.tabS st t
    obtain ⟨q1, q2, q3, q4⟩ := new_own R2 n ry
    exact h3 (.ref p) _ Hs1 A1 [p] ((s1.trans s2).trans q1) q2 q3 (q4.back (s1.trans s2))
theorem pv_sortR (C : Cz T P k N sc W X) {e : Expr} {m : M AV} {p kpos cpos pos : Pos} {j : Nat} (hb : ("sorted" : Str) ∈ T.nb) (hg : isGl sc "sorted" = true)
    (ha : PE X e (tA T.tx X.K W m)) (he : starEach [e] X.env = (false, eval e X.env) :: starEach [] X.env) :
    PE X (.Call (.Name "sorted" p) [e] [⟨some (Str.ofString "reverse"), .Constant (.bool true) j cpos, kpos⟩] pos) (tA T.tx X.K W (do let x ← m; v1 (opM [x] true (biD .sortedR)))) := by
  refine (pe_callBK (call_sortR C.fx.sys C.hu) (isGl_gl C.hsc hg) (C.fx.nb _ hb) (by decide +kernel) (pa_cons ha pa_nil he) (pk_cons pe_bl pk_nil) (by decide) (by decide) (by rw [he]; rfl) (by rw [he]; rfl) rfl rfl rfl).mono fun σ H Q q => ?_
  obtain ⟨Hs, e, A, R, g⟩ := q
  refine at_bind R g fun x a e1 Hs1 H1 A1 s1 R1 r1 P1 => ?_
  exact ⟨rfl, opN_use opN_sortedR (sorted_mut (.inr (.inl rfl))) R1 (AVrs.one r1) (Pst_v1 P1) fun d p ys dys g z n ry => by
    subst z
    have x := Ext.laid (o := .lst ys) R1.sub n
    exact g _ _ _ A1 (s1.trans x.stp) (R1.ext x) (.lst (.of upd_same) (ry.up x.hs))⟩
/-- a new list, own -/
theorem pv_wbi (C : Cz T P k N sc W X) {f : Bf} {x : Str} {c : Bool} {n : String} {e : Expr} {es : List Expr} {ms : M (List AV)} {p pos : Pos} (hf : biN f = some (x, c, n)) (hnw : newB f = true) (hb : x ∈ T.nb) (hg : isGl sc x = true)
    (ha : PA X (e :: es) (tAs T.tx X.K W ms)) (he : starEach (e :: es) X.env = (false, eval e X.env) :: starEach es X.env) (hpl : (backTo pos (starEach es X.env)).any (·.1) = false) :
    PE X (.Call (.Name x p) (e :: es) [] pos) (tWd T.tx X.K W 1 (do let xs ← ms; opM xs true (biD f))) := by
  obtain ⟨hv, hn, hd, r, h1, h2, h3⟩ := bi_callN (X := X) C.fx.sys C.hu hf hnw
  have key : ∀ σ H Q, tWd T.tx X.K W 1 (do let xs ← ms; opM xs true (biD f)) σ H Q → tCB r (tAs T.tx X.K W ms) σ H Q := fun σ H Q q => by
    obtain ⟨Hs, e, A, R, g⟩ := q
    refine at_bind R g fun xs as e1 Hs1 H1 A1 s1 R1 r1 P1 => ?_
    refine opN_use h2 h3 R1 r1 P1 fun d p ys dys g z n ry => ?_
    subst z
    obtain ⟨q1, q2, q3, q4⟩ := new_own R1 n ry
    exact g (.ref p) _ Hs1 A1 [p] (s1.trans q1) q2 q3 (q4.back s1)
  cases c with
  | false => exact (pe_callB h1 (isGl_gl C.hsc hg) (C.fx.nb x hb) hv ha hn hd he hpl).mono key
  | true => exact (pe_callTy h1 (isGl_gl C.hsc hg) (C.fx.nb x hb) hv ha hn hd he hpl).mono key
end
end Pv

/-! PvPop: xs.pop(), xs.pop(k). -/
namespace Pv
open PySem PySem.Spec PyProof.Rows L2
variable [TabC]
section
variable {T : Txt} {P : Pr} {k : Nat} {N : List Str} {sc : Scope} {W : WX} {X : Cx}
theorem few_1 {e : Expr} {cpos : Pos} {env : Env} (hs : noStar e = true) : ((backTo cpos (starEach [e] env)).all (fun x => !x.1) && (backToKw cpos (keywordEach [] env)).all (fun x => x.1.isSome)
      && decide ([e].length + ([] : List Keyword).length + (if ([] : List Keyword).isEmpty then 0 else 1) < 30)) = true := by
  rw [star_cons hs]
  rfl
/-- where the popping comes to, at the slots -/
theorem pop_at {T : Tx} {K : PySem.W.Frag} {W : WX} {σ : L2.St} {Hs H : Hp} {e : En} {A : Nat → List Addr} {i : Nat} {z : Option Int} {v : V} (R : Rel K σ Hs H e A) (hv : σ[i]? = some (some v)) {good : D → En → Prop} (P : Pst T K W A Hs H (popM i z e) good) :
    ∃ (a : Addr) (vs : List V) (xs : List D) (j : Nat) (y : V) (d : D), v = .ref a ∧ H a = some (.lst vs) ∧ vs.length = xs.length ∧ xs.length ≤ sline ∧ (match z with | none => xs.length ≠ 0 ∧ j = xs.length - 1 | some z => ixN xs.length z = some j) ∧ vs[j]? = some y ∧ Rp K Hs y d ∧ good d (e.set i (.ow 1 (.list (xs.eraseIdx j)))) ∧
      ∃ A', Rel K σ Hs (upd H a (.lst (vs.eraseIdx j))) (e.set i (.ow 1 (.list (xs.eraseIdx j)))) A' ∧ Stp A Hs H A' Hs (upd H a (.lst (vs.eraseIdx j))) := by
  obtain ⟨m, c, hi, g1⟩ := rdO_inv (Pst.bind P)
  obtain ⟨xs, hx, g2⟩ := ofO_inv (Pst.bind g1)
  obtain ⟨j, hj, g3⟩ := ofO_inv (Pst.bind g2)
  obtain ⟨d, hd, g4⟩ := ofO_inv (Pst.bind g3)
  have shape : m = 1 ∧ c = .list xs ∧ xs.length ≤ sline := by
    split at hx
    · rename_i ys e0
      obtain ⟨rfl, rfl⟩ : m = 1 ∧ c = .list ys := by injection e0 with a b; exact ⟨a, b⟩
      split at hx
      · cases hx; exact ⟨rfl, rfl, by assumption⟩
      · cases hx
    · cases hx
  obtain ⟨rfl, rfl, hl⟩ := shape
  obtain ⟨m', a, vs, ls, em, h1, h2, h3, h4, h5, h6⟩ := R.ow_list hi (by omega)
  have em : m' = 0 := by omega
  subst em
  obtain ⟨r0, rfl⟩ := ownAll0 h3
  rw [hv] at h1
  cases h1
  obtain ⟨y, hy, ry⟩ := r0.get hd
  have re := r0.eraseIdx j
  obtain ⟨R2, s2⟩ := R.reroot (ls' := []) (d' := .list (xs.eraseIdx j)) (u := .lst (vs.eraseIdx j)) hi hv (by rw [h4]; simp) (own1 upd_same re) (by simp) (fun b hb => nomatch hb) (fun j hj b hb => nomatch hb) .refl fun b hb => nomatch hb
  refine ⟨a, vs, xs, j, y, d, rfl, h2, r0.length, hl, ?_, hy, ry, g4, _, R2, s2⟩
  cases z with
  | none =>
    simp only at hj
    split at hj
    · cases hj
    · rename_i n
      cases hj
      exact ⟨n, rfl⟩
  | some z => exact hj
theorem eraseLast {α : Type} (xs : List α) : xs.eraseIdx (xs.length - 1) = xs.dropLast := by
  exact PyProof.Rows.Copied.eraseIdx_last xs
theorem pv_pop0 (C : Cz T P k N sc W X) {i : Nat} {x : Str} {p apos cpos : Pos} (h1 : N[i]? = some x) (h2 : isVis sc x = true) (h3 : plainName x = true) (hl : (apos.endLine == cpos.line) = true) :
    PE X (.Call (.Attribute (.Name x p) "pop" apos) [] [] cpos) (tA T.tx X.K W (popV i (M.ret none))) := by
  have nm : PE X (.Name x p) (fun σ H Q => ∃ v, σ[i]? = some (some v) ∧ Q v H) := pe_var (by rw [C.hN]; exact h1) (by rw [C.hsc]; exact isVis_vis h2) (plainName_1 h3) (plainName_2 h3)
  refine (pe_bm0 PySem.F.plainAttrs_list PySem.F.slot_list_pop PySem.F.type_list_pop mt_pop nm (by rfl) hl).mono fun σ H Q q => ?_
  obtain ⟨Hs, e, A, R, g⟩ := q
  have g0 : Pst T.tx X.K W A Hs H ((rdL i e).bind fun _ => (do let z ← (M.ret none : M (Option Int)); let d ← popM i z; M.ret (AV.val d) : M AV)) _ := g
  obtain ⟨w, xs, hi, g1⟩ := rdL_inv (Pst.bind g0)
  obtain ⟨v, hv, ty⟩ := R.own_lst hi
  refine ⟨v, hv, ty, ?_⟩
  have g1 : Pst T.tx X.K W A Hs H ((popM i none e).bind fun d => (M.ret (AV.val d) : M AV)) _ := g1
  obtain ⟨a, vs, xs, j, y, d, rfl, hH, hlen, hsl, hj, hy, ry, g2, A', R', s'⟩ := pop_at (z := none) R hv (Pst.bind g1)
  obtain ⟨n0, rfl⟩ := hj
  refine ⟨a, vs, y, rfl, rfl, hH, by rw [hlen]; exact hy, ?_⟩
  have ee : vs.dropLast = vs.eraseIdx (xs.length - 1) := by rw [← hlen, eraseLast]
  rw [ee]
  exact g2 y _ Hs A' s' R' ry
theorem pv_pop1 (C : Cz T P k N sc W X) {i : Nat} {x : Str} {a : Ex} {e1 : Expr} {p apos cpos : Pos} (h1 : N[i]? = some x) (h2 : isVis sc x = true) (h3 : plainName x = true) (hl : (apos.endLine == cpos.line) = true) (hs : noStar e1 = true)
    (ha : PE X e1 (tA T.tx X.K W (ev (cnOf P k) a))) : PE X (.Call (.Attribute (.Name x p) "pop" apos) [e1] [] cpos) (tA T.tx X.K W (popV i (evO (cnOf P k) (.so a)))) := by
  have nm : PE X (.Name x p) (fun σ H Q => ∃ v, σ[i]? = some (some v) ∧ Q v H) := pe_var (by rw [C.hN]; exact h1) (by rw [C.hsc]; exact isVis_vis h2) (plainName_1 h3) (plainName_2 h3)
  have one : PA X [e1] (fun σ H Q => tA T.tx X.K W (ev (cnOf P k) a) σ H fun v H' => Q [v] H') := pa_cons ha pa_nil (star_cons hs)
  refine (pe_bm PySem.F.plainAttrs_list PySem.F.slot_list_pop PySem.F.type_list_pop mt_popAt nm one (by rfl) (few_1 hs) hl (star_cons hs) (by rfl)).mono fun σ H Q q => ?_
  obtain ⟨Hs, e, A, R, g⟩ := q
  have g0 : Pst T.tx X.K W A Hs H ((rdL i e).bind fun _ => (do let z ← evO (cnOf P k) (.so a); let d ← popM i z; M.ret (AV.val d) : M AV)) _ := g
  obtain ⟨w, xs, hi, g1⟩ := rdL_inv (Pst.bind g0)
  obtain ⟨v, hv, ty⟩ := R.own_lst hi
  refine ⟨v, hv, ty, Hs, e, A, R, ?_⟩
  have g1 : Pst T.tx X.K W A Hs H ((evO (cnOf P k) (.so a) e).bind fun z => (do let d ← popM i z; M.ret (AV.val d) : M AV)) _ := g1
  have eO : evO (cnOf P k) (.so a) = (do let x ← ev (cnOf P k) a; let d ← valM x; let z ← intM d; M.ret (some z)) := by rw [evO]
  rw [eO] at g1
  refine (Pst.bind (Pst.bind g1)).imp fun au e2 g2 u H1 Hs1 A1 s1 R1 r1 => ?_
  obtain ⟨d0, rfl, g3⟩ := valM_inv (Pst.bind (Pst.later g2 s1))
  obtain ⟨z, rfl, g4⟩ := intM_inv (Pst.bind g3)
  have g4 : Pst T.tx X.K W A Hs H ((popM i (some z) e2).bind fun d => (M.ret (AV.val d) : M AV)) _ := g4
  obtain ⟨a', vs, xs, j, y, d, rfl, hH, hlen, hsl, hj, hy, ry, g5, A', R', s'⟩ := pop_at (z := some z) R1 hv (Pst.later (Pst.bind g4) s1)
  have hj : L2.ixN xs.length z = some j := hj
  obtain ⟨q1, q2, q3, q4⟩ := ixN_seq hj
  have sl : sline = 16777216 := by with_unfolding_all rfl
  exact ⟨a', vs, z, j, y, rfl, by rw [Rp.int_inv r1], hH, by omega, by omega, by rw [hlen]; exact q1, hy, g5 y _ Hs1 A' (s1.trans s') R' ry⟩
end
end Pv

/-! PvComO: a comprehension over a list of one's own. -/
namespace Pv
open PySem PySem.Spec PyProof.Rows L2
variable [TabC]
section
variable {T : Txt} {P : Pr} {k : Nat} {N : List Str} {sc : Scope} {W : WX} {X : Cx} {K : PySem.W.Frag} {σ : L2.St} {H : Hp}
theorem set_self {σ : L2.St} {i : Nat} {v : V} (hv : σ[i]? = some (some v)) : σ.set i (some v) = σ := by
  apply List.ext_getElem?
  intro j
  by_cases hj : i = j
  · subst hj
    rw [List.getElem?_set_self (List.getElem?_eq_some_iff.mp hv).1, hv]
  · rw [List.getElem?_set_ne hj]
theorem comp_lcO {i : Nat} {tg : Tg} {conds : M Bool} {el : M AV} {vs : List Nat} {Q : VK} (h : tW T.tx K W (do let d ← compOM i vs tg conds el; M.ret (1, d)) σ H Q) :
    tLc (iSeqA K fun σ H Q => ∃ v, σ[i]? = some (some v) ∧ Q v H) (tG T.tx K W0 (fun i => i ∉ vs) (bindT tg)) (tT T.tx K W0 conds) (tA T.tx K W0 el) vs σ H Q := by
  obtain ⟨Hs, e, A, R, g⟩ := h
  have g := Pst.bind g
  unfold compOM at g
  split at g
  rotate_left
  · exact g.elim
  rename_i ds hi
  obtain ⟨m', a, vs0, ls, em, h1, h2, h3, h4, h5, h6⟩ := R.ow_list hi (by omega)
  have em : m' = 0 := by omega
  subst em
  obtain ⟨r0, rfl⟩ := ownAll0 h3
  have il : i < e.length := (List.getElem?_eq_some_iff.mp hi).1
  have R0 : Rel K σ Hs H (e.set i .no) (noA A i) := by
    have := R.set_no i (some (.ref a))
    rwa [set_self h1] at this
  have ha0 : ∀ j, a ∉ noA A i j := fun j hj => (noA_mem hj).2 (R.dj j i a (noA_mem hj).1 (by rw [h4]; simp))
  have hsa : Hs a = none := R.fr i a (by rw [h4]; simp)
  refine ⟨.ref a, h1, .inl ⟨a, rfl, ⟨vs0, .of h2⟩, ?_⟩⟩
  intro Dl hD
  unfold compM at g
  split at g
  rotate_left
  · rename_i hc
    exact g.elim
  rename_i d0 e0 hc
  split at hc
  · cases hc
  rename_i hlen
  have hlen : ds.length ≤ sizeLine := by
    have : ¬ sline < ds.length := hlen
    have := Nat.le_of_not_lt this
    exact sline_eq ▸ this
  split at hc
  rotate_left
  · cases hc
  rename_i ds0 e2 hc2
  cases hc
  have wk : ∀ Hs' H' A', Same Hs Hs' → Same Hs' H' → Stp (noA A i) Hs H A' Hs' H' → ∀ j : Nat, (∀ d, ds[j]? = some d → (Itl K a).go j H' ∧ ∀ x H2, (Itl K a).yld j H' x H2 → ∃ Hs2, Ext Hs' H' Hs2 H2 ∧ Rp K Hs2 x d) ∧ (ds.length ≤ j → (Itl K a).stop j H') := fun Hs' H' A' s1 s2 st j => by
    have q : SqL K H' a vs0 := .of (st.fr a _ h2 ha0 (isTab.noc R.tb h2 trivial))
    refine ⟨fun d hd => ?_, fun hl => ⟨vs0, q, by rw [r0.length]; exact hl⟩⟩
    obtain ⟨v, hv, rv⟩ := r0.get hd
    refine ⟨⟨vs0, v, q, hv⟩, fun x H2 y => ?_⟩
    obtain ⟨rfl, y⟩ := y
    have := y vs0 q
    rw [hv] at this
    cases this
    exact ⟨Hs', .refl s2, rv.up s1⟩
  have aD : a ≠ Dl := fun z => by rw [z, hD] at h2; cases h2
  obtain ⟨I, hI, turn⟩ := comp_turnsG (T := T.tx) (K := K) (vs := vs) (tg := tg) (conds := conds) (el := el) (σ := σ) (Dl := Dl) (Q := Q) (A0 := noA A i) (Hs0 := Hs) (H0 := H) (g0 := fun ds e' => ds = ds0 ∧ e' = e2) wk hlen hD
    (fun ds1 e' acc Hs' H' A' hg st R' hDl ra dA dH => by
      obtain ⟨rfl, rfl⟩ := hg
      have Rb := R0.putBack R' st.hs
      have hHa : H' a = some (.lst vs0) := st.fr a _ h2 ha0 (isTab.noc R.tb h2 trivial)
      have ha' : ∀ j, a ∉ noAs A' vs j := fun j hj => by
        rcases st.new j a (noAs_mem hj).1 with ⟨k, hk⟩ | z
        · exact ha0 k hk
        · rw [h2] at z; cases z
      have hsa' : Hs' a = none := by
        cases z : Hs' a with
        | none => rfl
        | some u =>
          rcases st.shn a (by rw [z]; simp) with w | ⟨k, hk⟩ | w
          · exact absurd hsa w
          · exact absurd hk (ha0 k)
          · rw [h2] at w; cases w
      have Rc := Rb.set_ow (i := i) (v := .ref a) (m := 1) (d := .list ds) (l := [a]) (by rw [putBack_len, ← R'.len, wipe_length, R.len]; exact il) (own1 hHa (r0.up st.hs)) (by simp) (fun b hb => by rw [List.mem_singleton.mp hb]; exact hsa') (fun j hj b hb => by rw [List.mem_singleton.mp hb]; exact ha' j)
      rw [set_self h1] at Rc
      have stc : Stp A Hs H (inA (noAs A' vs) i [a]) Hs' H' := by
        have s0 := (noA_stp (A := A) (Hs := Hs) (H := H) (i := i)).trans (st.trans (noAs_stp (vs := vs)))
        refine ⟨s0.hs, s0.fr, fun j b hb => ?_, s0.shn, s0.tb⟩
        unfold inA at hb
        split at hb
        · rw [List.mem_singleton.mp hb]
          exact .inl ⟨i, by rw [h4]; simp⟩
        · exact s0.new j b hb
      refine g (.ref Dl) H' Hs' _ [Dl] stc Rc (own1 hDl ra) ⟨by simp, fun b hb => ?_, fun j b hb hj => ?_, fun b hb => ?_⟩
      · rw [List.mem_singleton.mp hb]; exact dH
      · rw [List.mem_singleton.mp hb] at hj
        unfold inA at hj
        split at hj
        · exact aD (List.mem_singleton.mp hj).symm
        · exact dA j (noAs_mem hj).1
      · rw [List.mem_singleton.mp hb]; exact .inr hD)
  refine ⟨I, ⟨_, hI 0 _ ?_⟩, turn⟩
  have xo := Ext.laidO (o := .lst []) R0.sub hD
  have R2 := (R0.wipe vs).ext xo
  refine ⟨Hs, _, noAs (noA A i) vs, [], [], Same.refl _, R2, noAs_stp.trans xo.stp, upd_same, .nil, fun j hj => ?_, ?_, Nat.le_refl _, Nat.zero_le _, ds0, e2, ?_, rfl, rfl⟩
  · obtain ⟨o, ho, _⟩ := R0.own_some (noAs_mem hj).1
    rw [hD] at ho; cases ho
  · cases z : Hs Dl with
    | none => rfl
    | some u => have := R.sub _ _ z; rw [hD] at this; cases this
  · exact hc2
end
end Pv

/-! PvS16: the checker of expressions is sound: the whole. -/
namespace Pv
open PySem PySem.Spec PyProof.Rows L2
variable [TabC]

section
variable {T : Txt} {P : Pr} {k : Nat} {N : List Str}
theorem Cz.blk {W : WX} {X : Cx} {sc : Scope} (C : Cz T P k N sc W X) (s : Shared) (H : Hp) (scope : Scope) (cl : List (Str × Addr)) (Ca : Addr) (fp : List Addr) : Cz T P k N (relS scope sc) W0 (X.blk s H scope (compEnvC scope cl Ca X.env) fp) where
  hN := C.hN
  nd := C.nd
  hsc := by rw [← C.hsc]; rfl
  calm := C.calm
  tk := fun u s' ⟨_, _, _, _, _, _, _, _, _, _, _, _, _, _, _, _, w⟩ => w.elim
  room := C.room
  gd := C.gd
  fx := C.fx
theorem cells_fc {X : Cx} {sc : Scope} (s : Shared) (H : Hp) (scope : Scope) (cl : List (Str × Addr)) (Ca : Addr) (fp : List Addr) (hu : ∀ y ∈ scope.names, scope.names.lookup y.1 = some y.2) : Fc ⟨relS scope sc, cellsOf scope, false⟩ (X.blk s H scope (compEnvC scope cl Ca X.env) fp) := ⟨fun x h => by
  show (scope.names.lookup x == some .cell) = true
  have h : (cellsOf scope).contains x = true := h
  unfold cellsOf at h
  simp only [List.contains_eq_mem, List.mem_map, List.mem_filter, decide_eq_true_eq] at h
  obtain ⟨y, ⟨hy, hc⟩, rfl⟩ := h
  rw [hu y hy]
  have : y.2 = .cell := by simpa using hc
  rw [this]; rfl, fun h => nomatch h⟩
/-- what both readings of an expression are -/
def Both (T : Txt) (P : Pr) (k : Nat) (W : WX) (X : Cx) (ir : Ex) (e : Expr) : Prop := PE X e (tA T.tx X.K W (ev (cnOf P k) ir)) ∧ (tOk ir = true → PT X e (tT T.tx X.K W (tstM (ev (cnOf P k) ir))))
theorem base_of {o : Expr} {nm : Str} {env : Env} {whole : Sem Value} (h : noCall o = true) : attributeBase o nm env whole = whole := by
  cases o with
  | Call f es kws pos => cases es with
    | nil => cases h
    | cons _ _ => cases f <;> rfl
  | _ => first | rfl | cases h
theorem set_of {e : Expr} {env : Env} (h : noSet e = true) (x : Value) : foldedSetIterable e env x = pure x := by
  cases e <;> first | rfl | cases h
/-- a comprehension, its parts read -/
theorem comp_rule {c : Ctx} {W : WX} {X : Cx} {vs : List Nat} {tg : Tg} {mi : M (List D)} {conds : M Bool} {el : M AV} {elt tge iter : Expr} {ifs : List Expr} {scope : Scope} {pos : Pos} (C : Cz T P k N c.sc W X) (hb : blkC N c.sc scope (ownL N vs) = true) (hs : noSet iter = true)
    (hi : PI X tge iter (tI T.tx X.K W mi)) (hg : ∀ (s : Shared) (H : Hp) (Ca : Addr) (cl : List (Str × Addr)) (fp : List Addr), PG (X.blk s H scope (compEnvC scope cl Ca X.env) fp) tge (tG T.tx X.K W0 (fun i => i ∉ vs) (bindT tg)))
    (ht : ∀ (s : Shared) (H : Hp) (Ca : Addr) (cl : List (Str × Addr)) (fp : List Addr), PTs (X.blk s H scope (compEnvC scope cl Ca X.env) fp) ifs (tT T.tx X.K W0 conds))
    (he : ∀ (s : Shared) (H : Hp) (Ca : Addr) (cl : List (Str × Addr)) (fp : List Addr), PE (X.blk s H scope (compEnvC scope cl Ca X.env) fp) elt (tA T.tx X.K W0 el)) :
    PE X (.ListComp elt [⟨tge, iter, ifs, 0⟩] scope pos) (tW T.tx X.K W (do let items ← mi; let d ← compM vs items tg conds el; M.ret (1, d))) := by
  have ok : BlkOk X.N X.env.scope scope (ownL N vs) := by rw [C.hN, C.hsc]; exact blkOk_by hb
  refine (pe_lc C.calm (by rw [C.hN]; exact C.nd) hi ok hg ht he (set_of hs)).mono fun σ H Q q => ?_
  rw [ownL_snd]
  exact comp_lc q
theorem pts_of {W : WX} {X : Cx} {ifs : List Expr} {cs : Exs} (h1 : alen cs ≤ 1) (h0 : cs = .nil → ifs = []) (h : ∀ a, cs = .cons a .nil → ∃ e, ifs = [e] ∧ PT X e (tT T.tx X.K W (tstM (ev (cnOf P k) a)))) : PTs X ifs (tT T.tx X.K W (evB (cnOf P k) .And cs)) := by
  cases cs with
  | nil =>
    rw [h0 rfl]
    refine ⟨fun pins s σ H Q I q => pts_nil.run pins s σ H Q I ?_⟩
    obtain ⟨Hs, e, A, R, g⟩ := q
    exact g true H Hs A .refl R rfl
  | cons a as =>
    cases as with
    | nil =>
      obtain ⟨e, rfl, ht⟩ := h a rfl
      have eq2 : evB (cnOf P k) .And (.cons a .nil) = tstM (ev (cnOf P k) a) := evB_one_and _
      rw [eq2]
      exact pts_one ht
    | cons _ _ => simp [alen] at h1
theorem blk_uniq {c : Ctx} {vs : List Nat} {scope : Scope} (hb : blkC N c.sc scope (ownL N vs) = true) : ∀ y ∈ scope.names, scope.names.lookup y.1 = some y.2 := (blkOk_by hb).uniq
theorem comp_eq {cn : Cn} {vs : List Nat} {it : It} {tg : Tg} {cs : Exs} {el : Ex} : ev cn (.comp vs it tg cs el) = (do let p ← (do let items ← evI cn it; let d ← compM vs items tg (evB cn .And cs) (ev cn el); M.ret (1, d)); M.ret (.val p.2)) := by
  show (do let items ← evI cn it; v1 (compM vs items tg (evB cn .And cs) (ev cn el))) = _
  rw [bindA]
  congr 1
  funext items
  rw [bindA]
  rfl
theorem tysB_inv {T : Txt} {c : Ctx} : ∀ {ts : List String} {es : List Expr}, tysB T c ts es = true → ∃ ps : List Pos, ps.length = ts.length ∧ es = ((ts.zip ps).map fun p => .Name (Str.ofString p.1) p.2) ∧ ∀ t ∈ ts, t ∈ clsNames ∧ Str.ofString t ∈ T.nb ∧ isGl c.sc (Str.ofString t) = true
  | [], [], _ => ⟨[], rfl, rfl, fun t h => by simp at h⟩
  | t :: ts, .Name y p :: es, h => by
    simp only [tysB, Bool.and_eq_true, decide_eq_true_eq] at h
    obtain ⟨⟨⟨⟨h1, rfl⟩, h3⟩, h4⟩, h5⟩ := h
    obtain ⟨ps, g1, g2, g3⟩ := tysB_inv h5
    refine ⟨p :: ps, by simp [g1], by rw [g2]; rfl, fun u hu => ?_⟩
    rcases List.mem_cons.mp hu with e | hu
    · rw [e]; exact ⟨by simpa using h1, by simpa using h3, h4⟩
    · exact g3 u hu
  | [], _ :: _, h => by simp [tysB] at h
  | _ :: _, [], h => by simp [tysB] at h
  | _ :: _, .Constant .. :: _, h => by simp [tysB] at h
theorem compO_eq {cn : Cn} {i : Nat} {vs : List Nat} {tg : Tg} {cs : Exs} {el : Ex} : ev cn (.compO i vs tg cs el) = (do let p ← (do let d ← compOM i vs tg (evB cn .And cs) (ev cn el); M.ret (1, d)); M.ret (.val p.2)) := by
  show v1 (compOM i vs tg (evB cn .And cs) (ev cn el)) = _
  rw [bindA]
  rfl
mutual
theorem soE : ∀ (ir : Ex) {c : Ctx} {W : WX} {X : Cx} (e : Expr), Cz T P k N c.sc W X → Fc c X → okE T P.G N c ir e = true → Both T P k W X ir e
  | .lit d, c, W, X, e, C, F, h => by
    unfold okE at h
    split at h
    · exact both_of (lit_pe h) fun _ => rfl
    · cases h
  | .var i, c, W, X, e, C, F, h => by
    unfold okE at h
    split at h
    · obtain ⟨h1, h2, h3⟩ := nmOk_inv h
      exact both_of (pv_var C h1 h2 h3) fun _ => rfl
    · cases h
  | .own i, c, W, X, e, C, F, h => by
    unfold okE at h
    split at h
    · obtain ⟨h1, h2, h3⟩ := nmOk_inv h
      exact both_of (pv_own C h1 h2 h3) fun _ => rfl
    · cases h
  | .frz i, c, W, X, e, C, F, h => by
    unfold okE at h
    split at h
    · obtain ⟨h1, h2, h3⟩ := nmOk_inv h
      exact both_of (pv_frz C h1 h2 h3) fun _ => rfl
    · cases h
  | .glb g, c, W, X, e, C, F, h => by
    unfold okE at h
    split at h
    · simp only [Bool.and_eq_true, Bool.not_eq_true'] at h
      obtain ⟨h1, h2, h3⟩ := glOk_inv h.1
      refine both_of (pv_glb C h1 h2 h3 fun d hd kvs z => ?_) fun _ => rfl
      rw [hd, z] at h
      exact absurd h.2 (by simp [isDct])
    · cases h
  | .kidx g a, c, W, X, e, C, F, h => by
    unfold okE at h
    split at h
    · simp only [Bool.and_eq_true] at h
      obtain ⟨⟨⟨h0, hd⟩, hsl⟩, ha⟩ := h
      obtain ⟨h1, h2, h3⟩ := glOk_inv h0
      obtain ⟨kvs, hk⟩ := isDct_inv hd
      exact both_of (pv_kidx C hk h1 h2 h3 (soE a _ C F ha).1 (plainIx_of hsl)) fun _ => rfl
    · cases h
  | .kin neg g a, c, W, X, e, C, F, h => by
    unfold okE at h
    split at h
    · simp only [Bool.and_eq_true, decide_eq_true_eq] at h
      obtain ⟨⟨⟨h0, hd⟩, hop⟩, ha⟩ := h
      obtain ⟨h1, h2, h3⟩ := glOk_inv h0
      obtain ⟨kvs, hk⟩ := isDct_inv hd
      exact ⟨pv_kin C hop hk h1 h2 h3 (soE a _ C F ha).1 rfl, fun _ => pv_kinT C hop hk h1 h2 h3 (soE a _ C F ha).1 rfl⟩
    · cases h
  | .kget _ _, c, W, X, e, C, F, h => by
    unfold okE at h
    cases h
  | .bin op a b, c, W, X, e, C, F, h => by
    unfold okE at h
    split at h
    · simp only [Bool.and_eq_true, decide_eq_true_eq] at h
      obtain ⟨⟨⟨rfl, ho⟩, ha⟩, hb⟩ := h
      exact both_of (pv_bin C ho (soE a _ C F ha).1 (soE b _ C F hb).1) fun _ => rfl
    · cases h
  | .neg a, c, W, X, e, C, F, h => by
    unfold okE at h
    split at h
    · exact both_of (pv_neg C (soE a _ C F h).1) fun _ => rfl
    · cases h
  | .not_ a, c, W, X, e, C, F, h => by
    unfold okE at h
    split at h
    · simp only [Bool.and_eq_true] at h
      have b := soE a _ C F h.2
      refine ⟨pv_not C b.1, fun _ => ?_⟩
      have := pv_notT (pos := by assumption) (b.2 h.1)
      rw [show ev (cnOf P k) (.not_ a) = (do let b ← tstM (ev (cnOf P k) a); M.ret (.val (.bool (!b)))) from rfl, tstM_not]
      exact this
    · cases h
  | .bo op as, c, W, X, e, C, F, h => by
    unfold okE at h
    split at h
    · simp only [Bool.and_eq_true, decide_eq_true_eq, Bool.not_eq_true'] at h
      obtain ⟨⟨rfl, hn⟩, ha⟩ := h
      have b := soBo op as _ (by assumption) C F ha (by intro z; rw [z] at hn; cases hn)
      refine ⟨b.1, fun _ => ?_⟩
      rw [show ev (cnOf P k) (.bo op as) = boolV (evB (cnOf P k) op as) from rfl, tstM_boolV]
      exact b.2.pt
    · cases h
  | .cmp op a b, c, W, X, e, C, F, h => by
    unfold okE at h
    split at h
    · simp only [Bool.and_eq_true, decide_eq_true_eq, Bool.not_eq_true'] at h
      obtain ⟨⟨⟨rfl, hm⟩, ha⟩, hb⟩ := h
      refine ⟨pv_cmp C (soE a _ C F ha).1 (soE b _ C F hb).1 hm, fun _ => ?_⟩
      rw [show ev (cnOf P k) (.cmp op a b) = boolV (cmpM op (ev (cnOf P k) a) (ev (cnOf P k) b)) from rfl, tstM_boolV]
      exact pv_cmpT C (soE a _ C F ha).1 (soE b _ C F hb).1 hm
    · cases h
  | .cmp2 op op1 a b d, c, W, X, e, C, F, h => by
    unfold okE at h
    split at h
    · simp only [Bool.and_eq_true, decide_eq_true_eq, Bool.not_eq_true'] at h
      obtain ⟨⟨⟨⟨⟨rfl, rfl⟩, hm⟩, ha⟩, hb⟩, hd⟩ := h
      refine ⟨pv_cmp2 C (soE a _ C F ha).1 (soE b _ C F hb).1 (soE d _ C F hd).1 hm, fun _ => ?_⟩
      rw [show ev (cnOf P k) (.cmp2 op op1 a b d) = boolV (cmp2M op op1 (ev (cnOf P k) a) (ev (cnOf P k) b) (ev (cnOf P k) d)) from rfl, tstM_boolV]
      exact pv_cmp2T C (soE a _ C F ha).1 (soE b _ C F hb).1 (soE d _ C F hd).1 hm
    · cases h
  | .ife t a b, c, W, X, e, C, F, h => by
    unfold okE at h
    split at h
    · simp only [Bool.and_eq_true] at h
      obtain ⟨⟨⟨h0, ht⟩, ha⟩, hb⟩ := h
      exact ⟨pv_ife ((soE t _ C F ht).2 h0) (soE a _ C F ha).1 (soE b _ C F hb).1, fun z => by simp [tOk] at z⟩
    · cases h
  | .tup as, c, W, X, e, C, F, h => by
    unfold okE at h
    split at h
    · exact both_of (pv_tup (soEs as _ C F h)) fun _ => rfl
    · cases h
  | .lst as, c, W, X, e, C, F, h => by
    unfold okE at h
    split at h
    · exact both_of (pv_lst (soEs as _ C F h)) fun _ => rfl
    · cases h
  | .idx a b, c, W, X, e, C, F, h => by
    unfold okE at h
    split at h
    · simp only [Bool.and_eq_true] at h
      exact both_of (pv_idx C (soE a _ C F h.1.2).1 (soE b _ C F h.2).1 (plainIx_of h.1.1)) fun _ => rfl
    · cases h
  | .slc a lo hi, c, W, X, e, C, F, h => by
    unfold okE at h
    split at h
    · simp only [Bool.and_eq_true] at h
      exact both_of (pv_slc (soE a _ C F h.1.1).1 (soO lo _ C F h.1.2) (soO hi _ C F h.2)) fun _ => rfl
    · cases h
  | .rev a, c, W, X, e, C, F, h => by
    unfold okE at h
    split at h
    · simp only [Bool.and_eq_true, decide_eq_true_eq] at h
      obtain ⟨rfl, h⟩ := h
      exact both_of (pv_revs (soE a _ C F h).1) fun _ => rfl
    · cases h
  | .by2 a, c, W, X, e, C, F, h => by
    unfold okE at h
    split at h
    · simp only [Bool.and_eq_true, decide_eq_true_eq] at h
      obtain ⟨rfl, h⟩ := h
      exact both_of (pv_by2 (soE a _ C F h).1) fun _ => rfl
    · cases h
  | .bad, c, W, X, e, C, F, h => ⟨pv_bad, fun _ => pt_bad fun _ => rfl⟩
  | .dget a b, c, W, X, e, C, F, h => by
    unfold okE at h
    split at h
    · simp only [Bool.and_eq_true, decide_eq_true_eq] at h
      obtain ⟨⟨⟨⟨⟨rfl, ho⟩, hs⟩, hl⟩, ha⟩, hb⟩ := h
      exact both_of (pv_get1 C (soE a _ C F ha).1 (soE b _ C F hb).1 ⟨base_of ho, by rw [star_cons hs]; rfl, hl, by rw [star_cons hs]; rfl⟩) fun _ => rfl
    · cases h
  | .dget2 a b d, c, W, X, e, C, F, h => by
    unfold okE at h
    split at h
    · simp only [Bool.and_eq_true, decide_eq_true_eq] at h
      obtain ⟨⟨⟨⟨⟨⟨⟨rfl, ho⟩, hs⟩, hs2⟩, hl⟩, ha⟩, hb⟩, hd⟩ := h
      exact both_of (pv_get2 C (soE a _ C F ha).1 (soE b _ C F hb).1 (soE d _ C F hd).1 ⟨base_of ho, by rw [star_cons hs, star_cons hs2]; rfl, hl, by rw [star_cons hs, star_cons hs2]; rfl⟩) fun _ => rfl
    · cases h
  | .dct as, c, W, X, e, C, F, h => by
    unfold okE at h
    split at h
    · rename_i ks vs pos
      simp only [Bool.and_eq_true, decide_eq_true_eq] at h
      obtain ⟨hl, h⟩ := h
      obtain ⟨trs, h1, h2, h3, h4, h5⟩ := soP as ks vs pos C F h
      cases ks with
      | nil =>
        obtain ⟨rfl, rfl⟩ := h5 rfl
        refine both_of (pe_dnewK.mono fun σ H Q q p np => ?_) fun _ => rfl
        obtain ⟨Hs, e, A, R, g⟩ := q
        have x := Ext.laid (o := .dK []) R.sub np
        exact (show ∀ v H' Hs' A', _ from g) _ _ _ A x.stp (R.ext x) (.dct (.inl upd_same) .nil)
      | cons k0 ks => exact both_of ((pe_disp h1 h3 h4 (by simp) hl).mono fun σ H Q q => disp_of (h2 σ) q) fun _ => rfl
    · cases h
  | .bi f as, c, W, X, e, C, F, h => by
    unfold okE at h
    split at h
    · rename_i x p1 es kws p2
      simp only [Bool.and_eq_true] at h
      obtain ⟨⟨hg, hb⟩, h⟩ := h
      have hb : x ∈ T.nb := by simpa using hb
      split at h
      · rename_i nm d kp
        split at h
        · rename_i e1 a
          simp only [Bool.and_eq_true, decide_eq_true_eq] at h
          obtain ⟨⟨⟨rfl, hs⟩, ha⟩, h⟩ := h
          split at h
          · rename_i ky ps body sc lp
            simp only [Bool.and_eq_true, decide_eq_true_eq] at h
            obtain ⟨⟨rfl, hlm⟩, h⟩ := h
            split at h
            · rename_i pa hpa
              simp only [Bool.and_eq_true] at h
              unfold Both; rw [bi1_eq]
              exact both_of (pv_srtK C (F.2 hlm) hb hg (soE a _ C F ha).1 (star_cons hs) h.1 h.2) fun _ => rfl
            · cases h
          · rename_i b kc cp
            simp only [Bool.and_eq_true, decide_eq_true_eq] at h
            obtain ⟨rfl, rfl⟩ := h
            unfold Both; rw [bi1_eq]
            exact both_of (pv_sortR C hb hg (soE a _ C F ha).1 (star_cons hs)) fun _ => rfl
          · cases h
        · rename_i e1 a b
          simp only [Bool.and_eq_true, decide_eq_true_eq] at h
          obtain ⟨⟨⟨⟨rfl, hx⟩, hs⟩, ha⟩, hd⟩ := h
          split at hx
          · simp only [decide_eq_true_eq] at hx
            subst hx
            exact both_of (pv_minD C hb hg (soE a _ C F ha).1 (soE b _ C F hd).1 (star_cons hs)) fun _ => rfl
          · simp only [decide_eq_true_eq] at hx
            subst hx
            exact both_of (pv_maxD C hb hg (soE a _ C F ha).1 (soE b _ C F hd).1 (star_cons hs)) fun _ => rfl
          · cases hx
        · cases h
      · cases h
      · split at h
        · simp only [Bool.and_eq_true, decide_eq_true_eq] at h
          obtain ⟨rfl, h⟩ := h
          split at h
          · rename_i y p3 e1 q3
            simp only [Bool.and_eq_true, decide_eq_true_eq] at h
            obtain ⟨⟨⟨⟨rfl, hg2⟩, hb2⟩, hs⟩, ha⟩ := h
            exact both_of (pv_sortedSet C hb hg (by simpa using hb2) hg2 (soEs as _ C F ha) (star_cons hs)) fun _ => rfl
          · cases h
        · simp only [Bool.and_eq_true, decide_eq_true_eq] at h
          obtain ⟨rfl, h⟩ := h
          split at h
          · rename_i y p3 e1 q3 a
            simp only [Bool.and_eq_true, decide_eq_true_eq] at h
            obtain ⟨⟨⟨⟨rfl, hg2⟩, hb2⟩, hs⟩, ha⟩ := h
            unfold Both; rw [bi1_eq]
            exact both_of (pv_lenSet C hb hg (by simpa using hb2) hg2 (soE a _ C F ha).1 (star_cons hs)) fun _ => rfl
          · cases h
        · simp only [Bool.and_eq_true, decide_eq_true_eq] at h
          obtain ⟨rfl, h⟩ := h
          split at h
          · rename_i y p3 e1 q3 a
            simp only [Bool.and_eq_true, decide_eq_true_eq] at h
            obtain ⟨⟨⟨⟨rfl, hg2⟩, hb2⟩, hs⟩, ha⟩ := h
            unfold Both; rw [bi1_eq]
            exact both_of (pv_listRg1 C hb hg (by simpa using hb2) hg2 (soE a _ C F ha).1 (star_cons hs)) fun _ => rfl
          · rename_i y p3 e1 e2 q3 a b
            simp only [Bool.and_eq_true, decide_eq_true_eq] at h
            obtain ⟨⟨⟨⟨⟨⟨rfl, hg2⟩, hb2⟩, hs⟩, hs2⟩, ha⟩, hb3⟩ := h
            unfold Both; rw [bi2_eq]
            exact both_of (pv_listRg2 C hb hg (by simpa using hb2) hg2 (soE a _ C F ha).1 (soE b _ C F hb3).1 (star_cons hs) (star_cons hs2) (star_none (by simp [hs2]))) fun _ => rfl
          · cases h
        · simp only [Bool.and_eq_true, decide_eq_true_eq] at h
          obtain ⟨rfl, h⟩ := h
          split at h
          · rename_i e1 a
            simp only [Bool.and_eq_true] at h
            unfold Both; rw [bi1_eq]
            exact both_of (pv_dict1 C hb hg (soE a _ C F h.2).1 (star_cons h.1)) fun _ => rfl
          · cases h
        · rename_i ts e1 t
          simp only [Bool.and_eq_true, decide_eq_true_eq] at h
          obtain ⟨⟨⟨rfl, hs⟩, ha⟩, ht⟩ := h
          split at ht
          · rename_i t1 y p3
            simp only [Bool.and_eq_true, decide_eq_true_eq] at ht
            obtain ⟨⟨⟨h1, rfl⟩, h3⟩, h4⟩ := ht
            cases as with
            | nil => cases ha
            | cons a as =>
              cases as with
              | nil =>
                refine both_of (pv_isi1 C (by simpa using h1) rfl hb (by simpa using h3) hg h4 (soE a _ C F ha).1 (star_cons hs) rfl rfl) fun _ => rfl
              | cons _ _ => cases ha
          · rename_i es kt tp
            simp only [Bool.and_eq_true, decide_eq_true_eq] at ht
            obtain ⟨hl, ht⟩ := ht
            obtain ⟨ps, h1, h2, h3⟩ := tysB_inv ht
            cases as with
            | nil => cases ha
            | cons a as =>
              cases as with
              | nil => exact both_of (pv_isiT C h1 hl h3 h2 hb hg (soE a _ C F ha).1 (star_cons hs) rfl rfl) fun _ => rfl
              | cons _ _ => cases ha
          · cases ht
        · simp only [Bool.and_eq_true, Bool.not_eq_true'] at h
          obtain ⟨⟨hf, hne⟩, ha⟩ := h
          split at hf
          · rename_i y cc n hbi
            have hf : x = y := by simpa using hf
            subst hf
            obtain ⟨h1, h2⟩ := okEs_star ha
            cases es with
            | nil => cases hne
            | cons e1 es =>
              simp only [List.all_cons, Bool.and_eq_true] at h1
              exact both_of (pv_bi C hbi hb hg (soEs as _ C F ha) (star_cons h1.1) (star_none h1.2)) fun _ => rfl
          · cases hf
    · cases h
  | .me m a as, c, W, X, e, C, F, h => by
    unfold okE at h
    split at h
    · split at h
      · simp only [Bool.and_eq_true, decide_eq_true_eq] at h
        obtain ⟨⟨⟨⟨⟨rfl, ho⟩, hs⟩, hl⟩, ha⟩, hb⟩ := h
        exact both_of (pv_zfill C (soE a _ C F ha).1 (soE _ _ C F hb).1 (star_cons hs) (base_of ho) hl) fun _ => rfl
      · simp only [Bool.and_eq_true, decide_eq_true_eq] at h
        obtain ⟨⟨⟨⟨⟨rfl, ho⟩, hs⟩, hl⟩, ha⟩, hb⟩ := h
        exact both_of (pv_join C (soE a _ C F ha).1 (soE _ _ C F hb).1 (star_cons hs) (base_of ho) hl) fun _ => rfl
      · cases h
    · cases h
  | .call f km as ks src, c, W, X, e, C, F, h => by
    unfold okE at h
    split at h
    · rename_i x p1 es kws p2
      simp only [Bool.and_eq_true, decide_eq_true_eq] at h
      obtain ⟨⟨⟨⟨⟨hx, hg⟩, hp⟩, ha⟩, hk⟩, h⟩ := h
      split at h
      · rename_i fm hfm
        simp only [Bool.and_eq_true, decide_eq_true_eq] at h
        obtain ⟨⟨⟨h1, h2⟩, h3⟩, h4⟩ := h
        obtain ⟨s1, s2⟩ := okEs_star ha
        obtain ⟨k1, k2, k3, k4⟩ := kw_names (pos := p2) (env := X.env) h3
        have w := pv_callW C (p := p1) (pos := p2) hx hfm h1 hg hp (fun e r z => by
            subst z
            simp only [List.all_cons, Bool.and_eq_true] at s1
            refine ⟨star_cons s1.1, star_none s1.2, ?_⟩
            rw [star_none (by simp [s1.1, s1.2]), k3]; rfl) (fun z => by
            subst z
            rw [k3]; rfl) (fun z => by
            subst z
            cases as with
            | nil => rfl
            | cons _ _ => cases s2) k1 k2 (fun e xs e' q => by rw [h2]; exact evs_len q) (fun e xs e' q => by rw [← k4, okKs_len hk]; exact evs_len q) (soEs as es C F ha) (soKs ks kws C F hk)
        have q := pv_call w
        rw [srEq_eq h4] at q
        refine both_of ?_ fun _ => rfl
        have e1 : ev (cnOf P k) (.call f km as ks src) = (do let p ← (do let xs ← evs (cnOf P k) as; let ys ← evs (cnOf P k) ks; callM (cnOf P k) f (xs ++ ys) src); M.ret (AV.val p.2)) := by
          show (do let xs ← evs (cnOf P k) as; let ys ← evs (cnOf P k) ks; let p ← callM (cnOf P k) f (xs ++ ys) src; M.ret (AV.val p.2)) = _
          rw [bindA]
          congr 1
          funext xs
          rw [bindA]
        rw [e1]
        exact q
      · cases h
    · cases h
  | .comp vs it tg cs el, c, W, X, e, C, F, h => by
    unfold okE at h
    split at h
    · rename_i elt tge iter ifs asy scope pos
      simp only [Bool.and_eq_true, decide_eq_true_eq] at h
      obtain ⟨⟨⟨⟨⟨⟨⟨rfl, hs⟩, hi⟩, hb⟩, htg⟩, hcs⟩, hal⟩, hel⟩ := h
      have hu := blk_uniq hb
      unfold Both
      rw [comp_eq]
      refine both_of (pv_call (comp_rule C hb hs (soI it tge iter C F hi) (fun s H Ca cl fp => ?_) (fun s H Ca cl fp => ?_) (fun s H Ca cl fp => ?_))) fun _ => rfl
      · have Cb := C.blk s H scope cl Ca fp
        exact soT (c := ⟨relS scope c.sc, cellsOf scope, false⟩) (p := fun i => i ∉ vs) (fun i hi z => z (by simpa using hi)) C.nd Cb.hN Cb.hsc C.calm (cells_fc s H scope cl Ca fp hu) tg tge htg
      · have Cb := C.blk s H scope cl Ca fp
        exact soPts cs ifs (c := ⟨relS scope c.sc, cellsOf scope, false⟩) Cb (cells_fc s H scope cl Ca fp hu) hcs hal
      · have Cb := C.blk s H scope cl Ca fp
        exact (soE el elt (c := ⟨relS scope c.sc, cellsOf scope, false⟩) Cb (cells_fc s H scope cl Ca fp hu) hel).1
    · cases h
  | .compO i vs tg cs el, c, W, X, e, C, F, h => by
    unfold okE at h
    split at h
    · rename_i elt tge x px ifs asy scope pos
      simp only [Bool.and_eq_true, decide_eq_true_eq] at h
      obtain ⟨⟨⟨⟨⟨⟨rfl, hi⟩, hb⟩, htg⟩, hcs⟩, hal⟩, hel⟩ := h
      have hu := blk_uniq hb
      obtain ⟨n1, n2, n3⟩ := nmOk_inv hi
      have ok : BlkOk X.N X.env.scope scope (ownL N vs) := by rw [C.hN, C.hsc]; exact blkOk_by hb
      have hpe : PE X (.Name x px) (fun σ H Q => ∃ v, σ[i]? = some (some v) ∧ Q v H) := pe_var (by rw [C.hN]; exact n1) (by rw [C.hsc]; exact isVis_vis n2) (plainName_1 n3) (plainName_2 n3)
      have key : PE X (.ListComp elt [⟨tge, .Name x px, ifs, 0⟩] scope pos) (tW T.tx X.K W (do let d ← compOM i vs tg (evB (cnOf P k) .And cs) (ev (cnOf P k) el); M.ret (1, d))) := by
        refine (pe_lc C.calm (by rw [C.hN]; exact C.nd) (pi_seqA hpe) ok (g := tG T.tx X.K W0 (fun i => i ∉ vs) (bindT tg)) (tt := tT T.tx X.K W0 (evB (cnOf P k) .And cs)) (te := tA T.tx X.K W0 (ev (cnOf P k) el)) (fun s H Ca cl fp => ?_) (fun s H Ca cl fp => ?_) (fun s H Ca cl fp => ?_) (set_of rfl)).mono fun σ H Q q => ?_
        · have Cb := C.blk s H scope cl Ca fp
          exact soT (c := ⟨relS scope c.sc, cellsOf scope, false⟩) (p := fun i => i ∉ vs) (fun i hi z => z (by simpa using hi)) C.nd Cb.hN Cb.hsc C.calm (cells_fc s H scope cl Ca fp hu) tg tge htg
        · have Cb := C.blk s H scope cl Ca fp
          exact soPts cs ifs (c := ⟨relS scope c.sc, cellsOf scope, false⟩) Cb (cells_fc s H scope cl Ca fp hu) hcs hal
        · have Cb := C.blk s H scope cl Ca fp
          exact (soE el elt (c := ⟨relS scope c.sc, cellsOf scope, false⟩) Cb (cells_fc s H scope cl Ca fp hu) hel).1
        · rw [ownL_snd]
          exact comp_lcO q
      unfold Both
      rw [compO_eq]
      exact both_of (pv_call key) fun _ => rfl
    · cases h
  | .pop i a, c, W, X, e, C, F, h => by
    unfold okE at h
    split at h
    · rename_i x px nm apos es cpos
      simp only [Bool.and_eq_true, decide_eq_true_eq] at h
      obtain ⟨⟨⟨rfl, hn⟩, hl⟩, h⟩ := h
      obtain ⟨h1, h2, h3⟩ := nmOk_inv hn
      split at h
      · unfold Both
        rw [show ev (cnOf P k) (.pop i .no) = popV i (M.ret none) from by rw [ev, evO]]
        exact both_of (pv_pop0 C h1 h2 h3 hl) fun _ => rfl
      · rename_i b e1
        simp only [Bool.and_eq_true] at h
        unfold Both
        rw [show ev (cnOf P k) (.pop i (.so b)) = popV i (evO (cnOf P k) (.so b)) from by rw [ev]]
        exact both_of (pv_pop1 C h1 h2 h3 hl h.1 (soE b _ C F h.2).1) fun _ => rfl
      · cases h
    · cases h
theorem soEs : ∀ (as : Exs) {c : Ctx} {W : WX} {X : Cx} (es : List Expr) {t : Bool}, Cz T P k N c.sc W X → Fc c X → okEs T P.G N c t as es = true → PA X es (tAs T.tx X.K W (evs (cnOf P k) as))
  | .nil, c, W, X, es, t, C, F, h => by
    unfold okEs at h
    split at h
    · exact pv_nil
    · cases h
  | .cons a as, c, W, X, es, t, C, F, h => by
    unfold okEs at h
    split at h
    · simp only [Bool.and_eq_true] at h
      exact pv_cons (soE a _ C F h.1.2).1 (soEs as _ C F h.2) (star_cons h.1.1.1)
    · cases h
theorem soBo (op : BoolOp) : ∀ (as : Exs) {c : Ctx} {W : WX} {X : Cx} (es : List Expr) (pos : Pos), Cz T P k N c.sc W X → Fc c X → okEs T P.G N c true as es = true → es ≠ [] →
    PE X (.BoolOp op es pos) (tA T.tx X.K W (boolV (evB (cnOf P k) op as))) ∧ PW X (.BoolOp op es pos) (tT T.tx X.K W (evB (cnOf P k) op as))
  | .nil, c, W, X, es, pos, C, F, h, hn => by
    unfold okEs at h
    split at h
    · exact absurd rfl hn
    · cases h
  | .cons a as, c, W, X, es, pos, C, F, h, hn => by
    unfold okEs at h
    split at h
    · rename_i e r
      simp only [Bool.and_eq_true] at h
      obtain ⟨⟨⟨h1, h2⟩, h3⟩, h4⟩ := h
      have b := soE a _ C F h3
      have bt := b.2 (by simpa using h2)
      have eq : evB (cnOf P k) op (.cons a as) = stepB op (tstM (ev (cnOf P k) a)) (evB (cnOf P k) op as) := rfl
      cases r with
      | nil =>
        have e0 : as = .nil := by
          obtain ⟨_, s2⟩ := okEs_star h4
          cases as with
          | nil => rfl
          | cons _ _ => cases s2
        subst e0
        have eq2 : evB (cnOf P k) op (.cons a .nil) = tstM (ev (cnOf P k) a) := by
          rw [eq]
          cases op with
          | And => exact evB_one_and _
          | Or => exact evB_one_or _
        rw [eq2]
        refine ⟨pe_one (pv_boolV b.1), ?_⟩
        cases op with
        | And => exact pw_and1 bt
        | Or => exact pw_or1 bt
      | cons e2 r =>
        have ih := soBo op as (e2 :: r) pos C F h4 (by simp)
        rw [eq]
        exact ⟨pe_step b.1 ih.1, pw_step bt ih.2⟩
    · cases h
theorem soPts : ∀ (cs : Exs) {c : Ctx} {W : WX} {X : Cx} (ifs : List Expr), Cz T P k N c.sc W X → Fc c X → okEs T P.G N c true cs ifs = true → alen cs ≤ 1 → PTs X ifs (tT T.tx X.K W (evB (cnOf P k) .And cs))
  | .nil, c, W, X, ifs, C, F, h, hl => by
    unfold okEs at h
    split at h
    · exact pts_of hl (fun _ => rfl) (fun a z => by cases z)
    · cases h
  | .cons a as, c, W, X, ifs, C, F, h, hl => by
    unfold okEs at h
    split at h
    · rename_i e1 r
      simp only [Bool.and_eq_true] at h
      obtain ⟨_, s2⟩ := okEs_star h.2
      have hp := (soE a e1 C F h.1.2).2 (by simpa using h.1.1.2)
      refine pts_of hl (fun z => by cases z) (fun a2 z => ?_)
      cases z
      cases r with
      | nil => exact ⟨e1, rfl, hp⟩
      | cons _ _ => cases s2
    · cases h
theorem soP : ∀ (as : Exs) {c : Ctx} {W : WX} {X : Cx} (ks : List (Option Expr)) (vs : List Expr) (pos : Pos), Cz T P k N c.sc W X → Fc c X → okP T P.G N c as ks vs = true → ∃ trs, PPs X pos ks vs trs ∧
    (∀ σ H R, tAs T.tx X.K W (evs (cnOf P k) as) σ H (fun us H' => ∀ ps, flatP ps = us → R ps H') → tPairs trs σ H R) ∧ ks.all (·.isSome) = true ∧ ks.length = vs.length ∧ (ks = [] → as = .nil ∧ vs = [])
  | .nil, c, W, X, ks, vs, pos, C, F, h => by
    unfold okP at h
    split at h
    · refine ⟨[], pps_nil, fun σ H R q => ?_, rfl, rfl, fun _ => ⟨rfl, rfl⟩⟩
      obtain ⟨Hs, e, A, R', g⟩ := q
      exact g [] H Hs A .refl R' .nil [] rfl
    · cases h
  | .cons a as, c, W, X, ks, vs, pos, C, F, h => by
    unfold okP at h
    split at h
    · rename_i x ks' y vs' v r
      simp only [Bool.and_eq_true] at h
      obtain ⟨⟨h1, h2⟩, h3⟩ := h
      obtain ⟨trs, q1, q2, q3, q4, _⟩ := soP r ks' vs' pos C F h3
      refine ⟨_ :: trs, pps_cons (soE a _ C F h1).1 (soE v _ C F h2).1 q1, fun σ H R q => ?_, by simp [q3], by simp [q4], fun z => nomatch z⟩
      obtain ⟨Hs, e, A, R', g⟩ := q
      show tA T.tx X.K W (ev (cnOf P k) a) σ H _
      refine at_bind R' g fun x1 d1 e1 Hs1 H1 A1 s1 R1 r1 P1 => ?_
      show tA T.tx X.K W (ev (cnOf P k) v) σ H1 _
      refine at_run R1 (Pst.bind (Pst.bind P1)) fun x2 d2 e2 Hs2 H2 A2 s2 R2 r2 P2 => ?_
      have P2 := Pst.later P2 s2
      refine q2 σ H2 _ (at_run R2 (Pst.bind P2) fun us ds e3 Hs3 H3 A3 s3 R3 r3 P3 ps ep => ?_)
      subst ep
      exact (show ∀ v H' Hs' A', _ from P3) (x1 :: x2 :: flatP ps) H3 Hs3 A3 ((s1.trans s2).trans s3) R3 (.cons ((r1.up s2.hs).up s3.hs) (.cons (r2.up s3.hs) r3)) ((x1, x2) :: ps) rfl
    · cases h
theorem soKs : ∀ (as : Exs) {c : Ctx} {W : WX} {X : Cx} (es : List Keyword), Cz T P k N c.sc W X → Fc c X → okKs T P.G N c as es = true → PK X es (tAs T.tx X.K W (evs (cnOf P k) as))
  | .nil, c, W, X, es, C, F, h => by
    unfold okKs at h
    split at h
    · exact pk_nil'
    · cases h
  | .cons a as, c, W, X, es, C, F, h => by
    unfold okKs at h
    split at h
    · simp only [Bool.and_eq_true] at h
      exact pk_cons' (soE a _ C F h.1).1 (soKs as _ C F h.2)
    · cases h
theorem soO : ∀ (o : Oe) {c : Ctx} {W : WX} {X : Cx} (e : Option Expr), Cz T P k N c.sc W X → Fc c X → okO T P.G N c o e = true → PO X e (tO T.tx X.K W (evO (cnOf P k) o))
  | .no, c, W, X, e, C, F, h => by
    unfold okO at h
    split at h
    · exact pv_noPart
    · cases h
  | .so a, c, W, X, e, C, F, h => by
    unfold okO at h
    split at h
    · exact pv_part (soE a _ C F h).1
    · cases h
theorem soI : ∀ (it : It) {c : Ctx} {W : WX} {X : Cx} (tge e : Expr), Cz T P k N c.sc W X → Fc c X → okI T P.G N c it tge e = true → PI X tge e (tI T.tx X.K W (evI (cnOf P k) it))
  | .seq a, c, W, X, tge, e, C, F, h => by
    unfold okI at h
    exact pv_iseq (soE a _ C F h).1
  | .rng1 a, c, W, X, tge, e, C, F, h => by
    unfold okI at h
    split at h
    · simp only [Bool.and_eq_true, decide_eq_true_eq] at h
      obtain ⟨⟨⟨⟨rfl, hg⟩, hb⟩, hs⟩, ha⟩ := h
      exact pv_rng1 (isGl_gl C.hsc hg) (C.fx.nb _ (by simpa using hb)) (soE a _ C F ha).1 (star_cons hs)
    · cases h
  | .rng2 a b, c, W, X, tge, e, C, F, h => by
    unfold okI at h
    split at h
    · simp only [Bool.and_eq_true, decide_eq_true_eq] at h
      obtain ⟨⟨⟨⟨⟨⟨rfl, hg⟩, hb⟩, hs⟩, hs2⟩, ha⟩, h2⟩ := h
      exact pv_rng2 (isGl_gl C.hsc hg) (C.fx.nb _ (by simpa using hb)) (soE a _ C F ha).1 (soE b _ C F h2).1 (star_cons hs) (star_cons hs2)
    · cases h
  | .enum a, c, W, X, tge, e, C, F, h => by
    unfold okI at h
    simp only [Bool.and_eq_true] at h
    obtain ⟨ht, h⟩ := h
    split at ht
    · split at h
      · simp only [Bool.and_eq_true, decide_eq_true_eq] at h
        obtain ⟨⟨⟨⟨rfl, hg⟩, hb⟩, hs⟩, ha⟩ := h
        exact pv_enum (isGl_gl C.hsc hg) (C.fx.nb _ (by simpa using hb)) (soE a _ C F ha).1 (star_cons hs)
      · cases h
    · cases ht
  | .zip2 a b, c, W, X, tge, e, C, F, h => by
    unfold okI at h
    simp only [Bool.and_eq_true] at h
    obtain ⟨ht, h⟩ := h
    split at ht
    · split at h
      · simp only [Bool.and_eq_true, decide_eq_true_eq] at h
        obtain ⟨⟨⟨⟨⟨⟨rfl, hg⟩, hb⟩, hs⟩, hs2⟩, ha⟩, h2⟩ := h
        exact pv_zip2 (isGl_gl C.hsc hg) (C.fx.nb _ (by simpa using hb)) (soE a _ C F ha).1 (soE b _ C F h2).1 (star_cons hs) (star_cons hs2) (star_none (by simp [hs2]))
      · cases h
    · cases ht
  | .zipS a b, c, W, X, tge, e, C, F, h => by
    unfold okI at h
    simp only [Bool.and_eq_true] at h
    obtain ⟨ht, h⟩ := h
    split at ht
    · split at h
      · simp only [Bool.and_eq_true, decide_eq_true_eq] at h
        obtain ⟨⟨⟨⟨⟨⟨⟨rfl, rfl⟩, hg⟩, hb⟩, hs⟩, hs2⟩, ha⟩, h2⟩ := h
        exact pv_zipS (isGl_gl C.hsc hg) (C.fx.nb _ (by simpa using hb)) (soE a _ C F ha).1 (soE b _ C F h2).1 (star_cons hs) (star_cons hs2)
      · cases h
    · cases ht
  | .dkeys _, c, W, X, tge, e, C, F, h => by
    unfold okI at h
    cases h
  | .rev a, c, W, X, tge, e, C, F, h => by
    unfold okI at h
    split at h
    · simp only [Bool.and_eq_true, decide_eq_true_eq] at h
      obtain ⟨⟨⟨⟨rfl, hg⟩, hb⟩, hs⟩, ha⟩ := h
      exact pv_rev (isGl_gl C.hsc hg) (C.fx.nb _ (by simpa using hb)) (soE a _ C F ha).1 (star_cons hs)
    · cases h
end
end
end Pv

/-! PvS17: own values' and statements' checker, its soundness. -/
namespace Pv
open PySem PySem.Spec PyProof.Rows L2
variable [TabC]

def noComp : Expr → Bool
  | .ListComp .. | .SetComp .. | .DictComp .. => false
  | _ => true
/-- the comprehension's value is stored while the block stands -/
def swC (c : Ctx) (x : Str) (py : Pos) : Expr → Bool
  | .ListComp _ _ s pos => (match c.sc.kind with | .function => true | _ => false) && (match c.sc.names.lookup x with | some .local => true | _ => false) && (py.line == pos.line) && !(s.names.any fun (n, k) => n == x && (k == .local || k == .cell))
  | _ => false
def isLc : Expr → Bool
  | .ListComp .. => true
  | _ => false
mutual
def okW (T : Txt) (G : List D) (N : List Str) (c : Ctx) : Nat → Ex → Expr → Bool
  | n, .lst as, e => (match e with | .List es _ => (match n with
    | 0 => false
    | 1 => okEs T G N c false as es
    | m + 2 => okWs T G N c (m + 1) as es) | _ => false)
  | n, .comp vs it tg cs el, e => decide (n = 1) && okE T G N c (.comp vs it tg cs el) e
  | n, .call f km as ks src, e => okE T G N c (.call f km as ks src) e
  | n, .bi f as, e => decide (n = 1) && (match e with
    | .Call (.Name x _) es kws _ => isGl c.sc x && T.nb.contains x && (match kws with
     | [⟨nm, d, _⟩] => (match es, as with
       | [e1], .cons a .nil => decide (x = "sorted") && noStar e1 && okE T G N c a e1 && (match f, d with
         | .srtK k, .Lambda ps body sc _ => decide (nm = some "key") && c.lm && (match ps.args with
           | [pa] => lamB pa.arg ps sc && kyB pa.arg k body
           | _ => false)
         | _, _ => false)
       | _, _ => false)
     | _ :: _ => false
     | [] => newB f && (match biN f with | some (y, _, _) => decide (x = y) | none => false) && !es.isEmpty && okEs T G N c false as es)
    | _ => false)
  | n, .ife t a b, e => (match e with | .IfExp x y z _ => tOk t && okE T G N c t x && okW T G N c n a y && okW T G N c n b z | _ => false)
  | _, _, _ => false
def okWs (T : Txt) (G : List D) (N : List Str) (c : Ctx) : Nat → Exs → List Expr → Bool
  | _, .nil, es => (match es with | [] => true | _ => false)
  | n, .cons a as, es => (match es with | e :: r => noStar e && okW T G N c n a e && okWs T G N c n as r | _ => false)
end
def okA (T : Txt) (G : List D) (N : List Str) (c : Ctx) (n : Nat) (ir : Ex) (e : Expr) : Bool := match n with
  | 0 => okE T G N c ir e
  | n => okW T G N c n ir e
def mA (cn : Cn) (n : Nat) (ir : Ex) : M D := match n with
  | 0 => vM (ev cn ir)
  | n + 1 => evW cn (n + 1) ir

section
variable {T : Txt} {P : Pr} {k : Nat} {N : List Str}
theorem evW_call {cn : Cn} {f km : Nat} {as ks : Exs} {src : List Sr} : ∀ (n : Nat), evW cn n (.call f km as ks src) = (do
    let xs ← evs cn as
    let ys ← evs cn ks
    let p ← callM cn f (xs ++ ys) src
    ownOf n p)
  | 0 => by rw [evW]
  | 1 => by rw [evW]
  | n + 2 => by rw [evW]
theorem evW_ife {cn : Cn} {t a b : Ex} : ∀ (n : Nat), evW cn n (.ife t a b) = (do let r ← tstM (ev cn t); if r then evW cn n a else evW cn n b)
  | 0 => by rw [evW]
  | 1 => by rw [evW]
  | n + 2 => by rw [evW]
theorem soCall {f km : Nat} {as ks : Exs} {src : List Sr} {c : Ctx} {W : WX} {X : Cx} {e : Expr} (C : Cz T P k N c.sc W X) (F : Fc c X) (h : okE T P.G N c (.call f km as ks src) e = true) :
    PE X e (tW T.tx X.K W (do let xs ← evs (cnOf P k) as; let ys ← evs (cnOf P k) ks; callM (cnOf P k) f (xs ++ ys) src)) := by
  unfold okE at h
  split at h
  · rename_i x p1 es kws p2
    simp only [Bool.and_eq_true, decide_eq_true_eq] at h
    obtain ⟨⟨⟨⟨⟨hx, hg⟩, hp⟩, ha⟩, hk⟩, h⟩ := h
    split at h
    · rename_i fm hfm
      simp only [Bool.and_eq_true, decide_eq_true_eq] at h
      obtain ⟨⟨⟨h1, h2⟩, h3⟩, h4⟩ := h
      obtain ⟨s1, s2⟩ := okEs_star ha
      obtain ⟨k1, k2, k3, k4⟩ := kw_names (pos := p2) (env := X.env) h3
      have w := pv_callW C (p := p1) (pos := p2) hx hfm h1 hg hp (fun e r z => by
          subst z
          simp only [List.all_cons, Bool.and_eq_true] at s1
          refine ⟨star_cons s1.1, star_none s1.2, ?_⟩
          rw [star_none (by simp [s1.1, s1.2]), k3]; rfl) (fun z => by
          subst z
          rw [k3]; rfl) (fun z => by
          subst z
          cases as with
          | nil => rfl
          | cons _ _ => cases s2) k1 k2 (fun e xs e' q => by rw [h2]; exact evs_len q) (fun e xs e' q => by rw [← k4, okKs_len hk]; exact evs_len q) (soEs as es C F ha) (soKs ks kws C F hk)
      rw [srEq_eq h4] at w
      exact w
    · cases h
  · cases h
/-- a comprehension's parts -/
theorem soLc {vs : List Nat} {it : It} {tg : Tg} {cs : Exs} {el : Ex} {c : Ctx} {W : WX} {X : Cx} {e : Expr} (C : Cz T P k N c.sc W X) (F : Fc c X) (h : okE T P.G N c (.comp vs it tg cs el) e = true) :
    ∃ elt tge iter ifs scope pos, e = .ListComp elt [⟨tge, iter, ifs, 0⟩] scope pos ∧ noSet iter = true ∧ blkC N c.sc scope (ownL N vs) = true ∧ PI X tge iter (tI T.tx X.K W (evI (cnOf P k) it)) ∧
      (∀ (s : Shared) (H : Hp) (Ca : Addr) (cl : List (Str × Addr)) (fp : List Addr), PG (X.blk s H scope (compEnvC scope cl Ca X.env) fp) tge (tG T.tx X.K W0 (fun i => i ∉ vs) (bindT tg))) ∧
      (∀ (s : Shared) (H : Hp) (Ca : Addr) (cl : List (Str × Addr)) (fp : List Addr), PTs (X.blk s H scope (compEnvC scope cl Ca X.env) fp) ifs (tT T.tx X.K W0 (evB (cnOf P k) .And cs))) ∧
      (∀ (s : Shared) (H : Hp) (Ca : Addr) (cl : List (Str × Addr)) (fp : List Addr), PE (X.blk s H scope (compEnvC scope cl Ca X.env) fp) elt (tA T.tx X.K W0 (ev (cnOf P k) el))) := by
  unfold okE at h
  split at h
  · rename_i elt tge iter ifs asy scope pos
    simp only [Bool.and_eq_true, decide_eq_true_eq] at h
    obtain ⟨⟨⟨⟨⟨⟨⟨rfl, hs⟩, hi⟩, hb⟩, htg⟩, hcs⟩, hal⟩, hel⟩ := h
    have hu := blk_uniq hb
    refine ⟨elt, tge, iter, ifs, scope, pos, rfl, hs, hb, soI it tge iter C F hi, fun s H Ca cl fp => ?_, fun s H Ca cl fp => ?_, fun s H Ca cl fp => ?_⟩
    · have Cb := C.blk s H scope cl Ca fp
      exact soT (c := ⟨relS scope c.sc, cellsOf scope, false⟩) (p := fun i => i ∉ vs) (fun i hi z => z (by simpa using hi)) C.nd Cb.hN Cb.hsc C.calm (cells_fc s H scope cl Ca fp hu) tg tge htg
    · have Cb := C.blk s H scope cl Ca fp
      exact soPts cs ifs (c := ⟨relS scope c.sc, cellsOf scope, false⟩) Cb (cells_fc s H scope cl Ca fp hu) hcs hal
    · have Cb := C.blk s H scope cl Ca fp
      exact (soE el elt (c := ⟨relS scope c.sc, cellsOf scope, false⟩) Cb (cells_fc s H scope cl Ca fp hu) hel).1
  · cases h
theorem evW_comp {cn : Cn} {vs : List Nat} {it : It} {tg : Tg} {cs : Exs} {el : Ex} : evW cn 1 (.comp vs it tg cs el) = (do let items ← evI cn it; compM vs items tg (evB cn .And cs) (ev cn el)) := by rw [evW]
theorem tWd_eq {Tx : Tx} {K : PySem.W.Frag} {W : WX} {n : Nat} {m : M D} {m2 : M (Nat × D)} (h : (do let d ← m; M.ret (n, d)) = m2) {σ : L2.St} {H : Hp} {Q : VK} (q : tWd Tx K W n m σ H Q) : tW Tx K W m2 σ H Q := by
  rw [← h]; exact tWd_of q
theorem comp_ret {cn : Cn} {vs : List Nat} {it : It} {tg : Tg} {cs : Exs} {el : Ex} : (do let d ← evW cn 1 (.comp vs it tg cs el); M.ret (1, d)) = (do let items ← evI cn it; let d ← compM vs items tg (evB cn .And cs) (ev cn el); M.ret (1, d)) := by
  rw [evW_comp, bindA]
mutual
theorem soW : ∀ (ir : Ex) {n : Nat} {c : Ctx} {W : WX} {X : Cx} (e : Expr), Cz T P k N c.sc W X → Fc c X → okW T P.G N c n ir e = true → PE X e (tWd T.tx X.K W n (evW (cnOf P k) n ir))
  | .lst as, n, c, W, X, e, C, F, h => by
    unfold okW at h
    split at h
    · split at h
      · cases h
      · have e1 : evW (cnOf P k) 1 (.lst as) = (do let xs ← evs (cnOf P k) as; let ds ← valsM xs; let _ ← ofO (if ds.length ≤ sline then some () else none); M.ret (.list ds)) := by rw [evW]
        rw [e1]
        exact pv_wlst1 (soEs as _ C F h)
      · rename_i m
        have e1 : evW (cnOf P k) (m + 2) (.lst as) = (do let ds ← evWs (cnOf P k) (m + 1) as; let _ ← ofO (if ds.length ≤ sline then some () else none); M.ret (.list ds)) := by rw [evW]
        rw [e1]
        exact pv_wlst (soWs as _ C F h)
    · cases h
  | .comp vs it tg cs el, n, c, W, X, e, C, F, h => by
    unfold okW at h
    simp only [Bool.and_eq_true, decide_eq_true_eq] at h
    obtain ⟨rfl, h⟩ := h
    obtain ⟨elt, tge, iter, ifs, scope, pos, rfl, hs, hb, hi, hg, ht, he⟩ := soLc C F h
    refine (comp_rule C hb hs hi hg ht he).mono fun σ H Q q => ?_
    exact tWd_eq comp_ret q
  | .call f km as ks src, n, c, W, X, e, C, F, h => by
    unfold okW at h
    refine (soCall C F h).mono fun σ H Q q => ?_
    refine tWd_call (n := n) ?_
    rw [evW_call] at q
    rw [bindA]
    have e2 : (fun xs => do
        let p ← (do let ys ← evs (cnOf P k) ks; callM (cnOf P k) f (xs ++ ys) src)
        ownOf n p) = (fun xs => do
        let ys ← evs (cnOf P k) ks
        let p ← callM (cnOf P k) f (xs ++ ys) src
        ownOf n p) := by
      funext xs
      rw [bindA]
    rw [e2]
    exact q
  | .ife t a b, n, c, W, X, e, C, F, h => by
    unfold okW at h
    split at h
    · simp only [Bool.and_eq_true] at h
      obtain ⟨⟨⟨h0, ht⟩, ha⟩, hb⟩ := h
      rw [evW_ife]
      exact pv_wife ((soE t _ C F ht).2 h0) (soW a _ C F ha) (soW b _ C F hb)
    · cases h
  | .lit _, n, c, W, X, e, C, F, h => by simp [okW] at h
  | .var _, n, c, W, X, e, C, F, h => by simp [okW] at h
  | .own _, n, c, W, X, e, C, F, h => by simp [okW] at h
  | .frz _, n, c, W, X, e, C, F, h => by simp [okW] at h
  | .glb _, n, c, W, X, e, C, F, h => by simp [okW] at h
  | .kidx _ _, n, c, W, X, e, C, F, h => by simp [okW] at h
  | .kin _ _ _, n, c, W, X, e, C, F, h => by simp [okW] at h
  | .kget _ _, n, c, W, X, e, C, F, h => by simp [okW] at h
  | .bin _ _ _, n, c, W, X, e, C, F, h => by simp [okW] at h
  | .neg _, n, c, W, X, e, C, F, h => by simp [okW] at h
  | .not_ _, n, c, W, X, e, C, F, h => by simp [okW] at h
  | .bo _ _, n, c, W, X, e, C, F, h => by simp [okW] at h
  | .cmp _ _ _, n, c, W, X, e, C, F, h => by simp [okW] at h
  | .cmp2 _ _ _ _ _, n, c, W, X, e, C, F, h => by simp [okW] at h
  | .tup _, n, c, W, X, e, C, F, h => by simp [okW] at h
  | .idx _ _, n, c, W, X, e, C, F, h => by simp [okW] at h
  | .slc _ _ _, n, c, W, X, e, C, F, h => by simp [okW] at h
  | .by2 _, n, c, W, X, e, C, F, h => by simp [okW] at h
  | .rev _, n, c, W, X, e, C, F, h => by simp [okW] at h
  | .bi f as, n, c, W, X, e, C, F, h => by
    unfold okW at h
    simp only [Bool.and_eq_true, decide_eq_true_eq] at h
    obtain ⟨rfl, h⟩ := h
    have e1 : evW (cnOf P k) 1 (.bi f as) = (do let xs ← evs (cnOf P k) as; if freshBi f then opM xs true (biD f) else fun _ => .bad) := by rw [evW]
    rw [e1]
    split at h
    · rename_i x p1 es kws p2
      simp only [Bool.and_eq_true] at h
      obtain ⟨⟨hg, hb⟩, h⟩ := h
      have hb : x ∈ T.nb := by simpa using hb
      split at h
      · rename_i nm d kp
        split at h
        · rename_i e1 a
          simp only [Bool.and_eq_true, decide_eq_true_eq] at h
          obtain ⟨⟨⟨rfl, hs⟩, ha⟩, h⟩ := h
          split at h
          · rename_i ky ps body sc lp
            simp only [Bool.and_eq_true, decide_eq_true_eq] at h
            obtain ⟨⟨rfl, hlm⟩, h⟩ := h
            split at h
            · rename_i pa hpa
              simp only [Bool.and_eq_true] at h
              have e2 : (do let xs ← evs (cnOf P k) (.cons a .nil); if freshBi (.srtK ky) then opM xs true (biD (.srtK ky)) else fun _ => .bad) = (do let x ← ev (cnOf P k) a; opM [x] true (biD (.srtK ky))) := by
                show (do let xs ← (do let x ← ev (cnOf P k) a; let xs ← M.ret []; M.ret (x :: xs)); opM xs true (biD (.srtK ky))) = _
                rw [bindA]
                congr 1
              rw [e2]
              exact pv_wsrtK C (F.2 hlm) hb hg (soE a _ C F ha).1 (star_cons hs) h.1 h.2
            · cases h
          · cases h
        · cases h
      · cases h
      · simp only [Bool.and_eq_true, Bool.not_eq_true'] at h
        obtain ⟨⟨⟨hnw, hf⟩, hne⟩, ha⟩ := h
        split at hf
        · rename_i y cc n hbi
          have hf : x = y := by simpa using hf
          subst hf
          obtain ⟨h1, h2⟩ := okEs_star ha
          have fr : freshBi f = true := by cases f <;> first | rfl | cases hnw
          rw [fr]
          cases es with
          | nil => cases hne
          | cons e es =>
            simp only [List.all_cons, Bool.and_eq_true] at h1
            exact pv_wbi C hbi hnw hb hg (soEs as _ C F ha) (star_cons h1.1) (star_none h1.2)
        · cases hf
    · cases h
  | .me _ _ _, n, c, W, X, e, C, F, h => by simp [okW] at h
  | .pop _ _, n, c, W, X, e, C, F, h => by simp [okW] at h
  | .bad, n, c, W, X, e, C, F, h => by simp [okW] at h
  | .dget _ _, n, c, W, X, e, C, F, h => by simp [okW] at h
  | .dget2 _ _ _, n, c, W, X, e, C, F, h => by simp [okW] at h
  | .dct _, n, c, W, X, e, C, F, h => by simp [okW] at h
  | .compO _ _ _ _ _, n, c, W, X, e, C, F, h => by simp [okW] at h
theorem soWs : ∀ (as : Exs) {n : Nat} {c : Ctx} {W : WX} {X : Cx} (es : List Expr), Cz T P k N c.sc W X → Fc c X → okWs T P.G N c n as es = true → PA X es (tAsW T.tx X.K W n (evWs (cnOf P k) n as))
  | .nil, n, c, W, X, es, C, F, h => by
    unfold okWs at h
    split at h
    · rw [evWs]
      exact pv_wnil
    · cases h
  | .cons a as, n, c, W, X, es, C, F, h => by
    unfold okWs at h
    split at h
    · simp only [Bool.and_eq_true] at h
      rw [evWs]
      exact pv_wcons (soW a _ C F h.1.2) (soWs as _ C F h.2) (star_cons h.1.1)
    · cases h
end
theorem soA {n : Nat} {ir : Ex} {c : Ctx} {W : WX} {X : Cx} {e : Expr} (C : Cz T P k N c.sc W X) (F : Fc c X) (h : okA T P.G N c n ir e = true) : PE X e (tWd T.tx X.K W n (mA (cnOf P k) n ir)) := by
  cases n with
  | zero => exact (soE ir e C F h).1.mono fun σ H Q q => tWd0 q
  | succ n => exact soW ir e C F h
end
end Pv

/-! PvX3: a, b = x, y. -/
namespace Pv
open PySem PySem.Spec PyProof.Rows L2
variable [TabC]
def kindB (sc : Scope) : Bool := match sc.kind with
  | .function => true
  | _ => false
theorem kindB_ok {sc : Scope} (h : kindB sc = true) : sc.kind = .function := by
  unfold kindB at h
  split at h
  · assumption
  · cases h
def locB (sc : Scope) (x : Str) : Bool := match sc.names.lookup x with
  | some .local => true
  | _ => false
theorem locB_ok {sc : Scope} {x : Str} (h : locB sc x = true) : sc.names.lookup x = some .local := by
  unfold locB at h
  split at h
  · assumption
  · cases h
/-- the names that such an assignment stores at once; none where nothing is told -/
def swNames (sc : Scope) (ts vs : List Expr) : Option (Option (List Str)) :=
  if !(ts.length == 2 || ts.length == 3) || vs.length != ts.length then some none else
  if vs.any (fun | .Starred .. => true | _ => false) then some none else
  let line := (ts.head?.map (·.pos.line)).getD 0
  let names := ts.filterMap fun
    | .Name id pos => if sc.names.lookup id == some .local && pos.line == line then some id else none
    | _ => none
  if names.length != ts.length || names.eraseDups.length != names.length then some none else
  if vs.all (foldedForSure 8) then some none else
  if vs.all (constantsAlone 8) then none else some (some names)
theorem sw_names {env : Env} {sc : Scope} {ts vs : List Expr} {k k2 : Nat} {p p2 : Pos} {o : Option (List Str)} (hs : env.scope = sc) (hk : sc.kind = .function) (h : swNames sc ts vs = some o) : swappedStores [.Tuple ts k p] (.Tuple vs k2 p2) env = pure o := by
  subst hs
  have hb : env.blockKind = .function := by unfold Env.blockKind; rw [hk]; rfl
  unfold swNames at h
  unfold swappedStores
  have hbb : (env.blockKind != .function) = false := by rw [hb]; rfl
  simp only [hbb, Bool.or_false]
  simp only [Env.kindOf]
  simp only at h
  split at h
  · rename_i c; refine Eq.trans (if_pos c) ?_; cases h; rfl
  · rename_i c; refine Eq.trans (if_neg c) ?_
    split at h
    · rename_i c; refine Eq.trans (if_pos c) ?_; cases h; rfl
    · rename_i c; refine Eq.trans (if_neg c) ?_
      split at h
      · rename_i c; refine Eq.trans (if_pos c) ?_; cases h; rfl
      · rename_i c; refine Eq.trans (if_neg c) ?_
        split at h
        · rename_i c; refine Eq.trans (if_pos c) ?_; cases h; rfl
        · rename_i c; refine Eq.trans (if_neg c) ?_
          split at h
          · cases h
          · rename_i c; refine Eq.trans (if_neg c) ?_; cases h; rfl
section
variable {X : Cx} {T : Tx} {W : WX} {p : Nat → Prop}
theorem par_at {i j : Nat} {ms : M (List AV)} {D : Ends} {σ : L2.St} {H : Hp} (hi : ¬ p i) (hj : ¬ p j) (h : tS T X.K W p (parM [i, j] ms) D σ H) : tPar i j (tAs T X.K W ms) D σ H := by
  obtain ⟨Hs, e, A, R, g⟩ := h
  show tAs T X.K W ms σ H _
  refine at_bind R (g : Pst _ _ _ _ _ _ ((ms e).bind _) _) fun vs as e1 Hs1 H1 A1 s1 R1 r1 P1 => ?_
  obtain ⟨ds, rp, P2⟩ := valsM_inv r1 (Pst.bind P1)
  match ds, rp, P2 with
  | [d1, d2], .cons (v := v1) a (.cons (v := v2) b .nil), P2 =>
    refine ⟨v1, v2, rfl, ?_⟩
    exact (show ∀ σ' H' Hs' A', _ from P2) _ H1 Hs1 _ ((s1.trans noA_stp).trans noA_stp) ((R1.set_sh a i).set_sh b j) ((Kp.set hi).trans (.set hj))
theorem par3_at {i j l : Nat} {ms : M (List AV)} {D : Ends} {σ : L2.St} {H : Hp} (hi : ¬ p i) (hj : ¬ p j) (hl : ¬ p l) (h : tS T X.K W p (parM [i, j, l] ms) D σ H) : tPar3 i j l (tAs T X.K W ms) D σ H := by
  obtain ⟨Hs, e, A, R, g⟩ := h
  show tAs T X.K W ms σ H _
  refine at_bind R (g : Pst _ _ _ _ _ _ ((ms e).bind _) _) fun vs as e1 Hs1 H1 A1 s1 R1 r1 P1 => ?_
  obtain ⟨ds, rp, P2⟩ := valsM_inv r1 (Pst.bind P1)
  match ds, rp, P2 with
  | [d1, d2, d3], .cons (v := v1) a (.cons (v := v2) b (.cons (v := v3) c .nil)), P2 =>
    refine ⟨v1, v2, v3, rfl, ?_⟩
    exact (show ∀ σ' H' Hs' A', _ from P2) _ H1 Hs1 _ (((s1.trans noA_stp).trans noA_stp).trans noA_stp) (((R1.set_sh a i).set_sh b j).set_sh c l) (((Kp.set hi).trans (.set hj)).trans (.set hl))
end
end Pv

/-! PvS18: the checker of statements, its soundness. -/
namespace Pv
open PySem PySem.Spec PyProof.Rows L2
variable [TabC]

def cellN (c : Ctx) (x : Str) : Bool := match c.sc.names.lookup x with | some .cell => true | _ => false
mutual
def okS (T : Txt) (G : List D) (N : List Str) (c : Ctx) (q : Nat → Bool) : St → Stmt → Bool
  | .asg n i e, st => (match st with | .Assign [.Name x py] v _ => tgOk N c q i x && okA T G N c n e v && (if isLc v then cellN c x || ((n == 0 || n == 1) && (match e with | .comp .. => true | _ => false) && swC c x py v) else noComp v) | _ => false)
  | .unp ts e, st => (match st with | .Assign [.Tuple es kk p] v _ => okT N c q (.tp ts) (.Tuple es kk p) && okE T G N c e v && (match v with | .Tuple vs _ _ => kindB c.sc && decide (swNames c.sc es vs = some none) | _ => true) | _ => false)
  | .aug op i e, st => (match st with | .AugAssign (.Name x _) op' v _ => decide (op = op') && decide (op = .Add ∨ op = .Sub) && tgOk N c q i x && okE T G N c e v | _ => false)
  | .sto n i a e, st => (match st with | .Assign [.Subscript (.Name x _) s _] v _ => nmOk N c i x && noSl s && noComp v && okE T G N c a s && okA T G N c n e v | _ => false)
  | .sto2 .., _ => false
  | .app n i e, st => (match st with | .Expr (.Call (.Attribute (.Name x _) nm apos) [v] [] cpos) _ => decide (nm = "append") && nmOk N c i x && noStar v && (apos.endLine == cpos.line) && okA T G N c n e v | _ => false)
  | .app2 .., _ => false
  | .sdapp .., _ => false
  | .mc i m as, st => (match m, as with
    | .reverse, .nil => (match st with | .Expr (.Call (.Attribute (.Name x _) nm apos) [] [] cpos) _ => decide (nm = "reverse") && nmOk N c i x && (apos.endLine == cpos.line) | _ => false)
    | .clear, .nil => (match st with | .Expr (.Call (.Attribute (.Name x _) nm apos) [] [] cpos) _ => decide (nm = "clear") && nmOk N c i x && (apos.endLine == cpos.line) | _ => false)
    | .extend, .cons e .nil => (match st with | .Expr (.Call (.Attribute (.Name x _) nm apos) [v] [] cpos) _ => decide (nm = "extend") && nmOk N c i x && noStar v && (apos.endLine == cpos.line) && okW T G N c 1 e v | _ => false)
    | _, _ => false)
  | .frz _, _ => false
  | .exp e, st => (match st with | .Expr v _ => okE T G N c e v && noComp v | _ => false)
  | .ret n e, st => (match st with | .Return (some v) _ => okA T G N c n e v | _ => false)
  | .reto i, st => (match st with | .Return (some (.Name x _)) _ => nmOk N c i x | _ => false)
  | .retn, st => (match st with | .Return none _ => true | _ => false)
  | .ite t a b, st => (match st with | .If v s1 s2 _ => tOk t && okE T G N c t v && okSs T G N c q a s1 && okSs T G N c q b s2 | _ => false)
  | .for_ it tg b, st => (match st with | .For tge iter body [] _ => noSet iter && okI T G N c it tge iter && okT N c q tg tge && okSs T G N c q b body | _ => false)
  | .whl t b, st => (match st with | .While v body [] _ => tOk t && okE T G N c t v && okSs T G N c q b body | _ => false)
  | .brk, st => (match st with | .Break _ => true | _ => false)
  | .cnt, st => (match st with | .Continue _ => true | _ => false)
  | .pas, st => (match st with | .Pass _ => true | _ => false)
  | .bad, _ => true
  | .tryN b, st => (match st with | .Try body (_ :: _) [] [] _ => okSs T G N c q b body | _ => false)
  | .par is as, st => (match st with
    | .Assign [.Tuple ts _ _] (.Tuple vs _ _) _ => kindB c.sc && (match is, ts with
      | [i, j], [.Name x _, .Name y _] => decide (N[i]? = some x) && decide (N[j]? = some y) && decide (i ≠ j) && q i && q j && locB c.sc x && locB c.sc y && (vs.length == 2) && okEs T G N c false as vs && decide (swNames c.sc ts vs = some (some [x, y]))
      | [i, j, l], [.Name x _, .Name y _, .Name z _] => decide (N[i]? = some x) && decide (N[j]? = some y) && decide (N[l]? = some z) && decide (i ≠ j) && decide (i ≠ l) && decide (j ≠ l) && q i && q j && q l && locB c.sc x && locB c.sc y && locB c.sc z && (vs.length == 3) && okEs T G N c false as vs && decide (swNames c.sc ts vs = some (some [x, y, z]))
      | _, _ => false)
    | _ => false)
def okSs (T : Txt) (G : List D) (N : List Str) (c : Ctx) (q : Nat → Bool) : Sts → List Stmt → Bool
  | .nil, sts => (match sts with | [] => true | _ => false)
  | .cons s ss, sts => (match s with
    | .frz _ => okSs T G N c q ss sts
    | s => (match sts with | st :: r => okS T G N c q s st && okSs T G N c q ss r | _ => false))
end

section
variable {T : Txt} {P : Pr} {k : Nat} {N : List Str}
theorem sw_none {v : Expr} {t : Option Expr} {l : Nat} {env : Env} (h : noComp v = true) : swapsWith v t l env = pure false := by
  cases v <;> first | rfl | cases h
theorem sws_none {t v : Expr} {l : Nat} {env : Env} (h : noComp v = true) : swapsWithSole [t] v l env = pure false := sw_none h
theorem sws_tup {es : List Expr} {kk : Nat} {p : Pos} {v : Expr} {l : Nat} {env : Env} : swapsWithSole [.Tuple es kk p] v l env = pure false := by
  cases v <;> rfl
theorem tgt_of {c : Ctx} {q : Nat → Bool} {i : Nat} {x : Str} {X : Cx} (hsc : X.env.scope = c.sc) (F : Fc c X) (h : tgOk N c q i x = true) : N[i]? = some x ∧ q i = true ∧ L2.Loc X.env.scope x ∧ (X.fn x = true ∨ X.env.scope.names.lookup x = some .local) :=
  tg_loc (sc := c.sc) hsc F h
theorem sw_cell {v : Expr} {x : Str} {py : Pos} {l : Nat} {env : Env} (h : (match env.scope.names.lookup x with | some .cell => true | _ => false) = true) : swapsWith v (some (.Name x py)) l env = pure false := by
  have e : env.kindOf x = some .cell := by
    show env.scope.names.lookup x = some .cell
    split at h
    · assumption
    · cases h
  cases v <;> first
    | rfl
    | (unfold swapsWith; simp only [e]; rw [show (some NameKind.cell == some NameKind.local) = false from rfl]; simp; done)
    | (unfold swapsWith; simp [e]; done)
    | (unfold swapsWith; simp only [e]; simp only [show (NameKind.cell == NameKind.local) = false from rfl, Bool.and_false, Bool.false_and, Bool.and_assoc]; rfl)
    | (unfold swapsWith; simp only [e]; congr 1; simp [show (NameKind.cell == NameKind.local) = false from rfl])
/-- a plain name's slot -/
theorem nm_pe {W : WX} {X : Cx} {c : Ctx} {i : Nat} {x : Str} {pos : Pos} (C : Cz T P k N c.sc W X) (h : nmOk N c i x = true) : PE X (.Name x pos) (fun σ H Q => ∃ v, σ[i]? = some (some v) ∧ Q v H) := by
  obtain ⟨h1, h2, h3⟩ := nmOk_inv h
  exact pe_var (by rw [C.hN]; exact h1) (by rw [C.hsc]; exact isVis_vis h2) (plainName_1 h3) (plainName_2 h3)
theorem one_pe {X : Cx} {e : Expr} {te : TE} (h : PE X e te) (hs : noStar e = true) : PA X [e] (fun σ H Q => te σ H fun v H' => Q [v] H') := pa_cons h pa_nil (star_cons hs)
theorem few_ok {e : Expr} {cpos : Pos} {env : Env} (hs : noStar e = true) : ((backTo cpos (starEach [e] env)).all (fun x => !x.1) && (backToKw cpos (keywordEach [] env)).all (fun x => x.1.isSome)
      && decide ([e].length + ([] : List Keyword).length + (if ([] : List Keyword).isEmpty then 0 else 1) < 30)) = true := by
  rw [star_cons hs]
  rfl
theorem ex_asg {cn : Cn} {n i : Nat} {e : Ex} : ex cn (.asg n i e) = match n with | 0 => asgM i (mA cn 0 e) | m + 1 => asgW (m + 1) i (mA cn (m + 1) e) := by
  cases n <;> rw [ex] <;> rfl
theorem ex_sto {cn : Cn} {n i : Nat} {a e : Ex} : ex cn (.sto n i a e) = stoM i n (mA cn n e) (ev cn a) := by
  cases n <;> rw [ex] <;> rfl
theorem ex_app {cn : Cn} {n i : Nat} {e : Ex} : ex cn (.app n i e) = appM i n (mA cn n e) := by
  cases n <;> rw [ex] <;> rfl
theorem ex_ret {cn : Cn} {n : Nat} {e : Ex} : ex cn (.ret n e) = retM n (mA cn n e) := by
  cases n <;> rw [ex] <;> rfl
theorem tgm {X : Cx} {T' : Tx} {W : WX} {p : Nat → Prop} {e : Expr} {t : Tg} (h : PG X e (tG T' X.K W p (bindT t))) : PG X e (tG T' X.K W p (bindT t)) := h
theorem pure_store {es : List Expr} {kk : Nat} {p : Pos} {v : Expr} {X : Cx} {sc : Scope} (hsc : X.env.scope = sc) (h : (match v with | .Tuple vs _ _ => kindB sc && decide (swNames sc es vs = some none) | _ => true) = true) : swappedStores [.Tuple es kk p] v X.env = pure none := by
  cases v <;> first | rfl | skip
  simp only [Bool.and_eq_true, decide_eq_true_eq] at h
  exact sw_names hsc (kindB_ok h.1) h.2
theorem sto_none {o s : Expr} {pos : Pos} (v : Expr) (env : Env) : swappedStores [.Subscript o s pos] v env = pure none := by
  cases v <;> rfl
theorem asn_sub {o s : Expr} {pos : Pos} {env : Env} (h : noSl s = true) : ∀ v, assign (.Subscript o s pos) env v = (do
      let ov ← holding [v] (eval o env)
      let iv ← holding [v, ov] (eval s env)
      standAt pos
      holding [v, ov, iv] (setItem ov iv v)
      release [v, ov, iv] []) := by
  intro v
  cases s <;> first | rfl | cases h
mutual
theorem soS : ∀ (ir : St) {c : Ctx} {W : WX} {X : Cx} {p : Nat → Prop} {q : Nat → Bool} (st : Stmt), (∀ i, q i = true → ¬ p i) → Cz T P k N c.sc W X → Fc c X → PassesOwn (model X.prog X.w) X.A X.env X.xe → okS T P.G N c q ir st = true → PS X st (tS T.tx X.K W p (ex (cnOf P k) ir))
  | .asg n i e, c, W, X, p, q, st, hq, C, F, hp, h => by
    unfold okS at h
    split at h
    · rename_i x py v pos
      simp only [Bool.and_eq_true] at h
      obtain ⟨⟨ht, ha⟩, hv⟩ := h
      obtain ⟨h1, h2, h3, h4⟩ := tgt_of C.hsc F ht
      have hXN : X.N.Nodup := by rw [C.hN]; exact C.nd
      have hXi : X.N[i]? = some x := by rw [C.hN]; exact h1
      have hil : ∀ σ : L2.St, σ.length = X.N.length → i < σ.length := fun σ hl => by rw [hl]; exact (List.getElem?_eq_some_iff.mp hXi).1
      have plain : (∀ l, swapsWith v (some (.Name x py)) l X.env = pure false) → PS X (.Assign [.Name x py] v pos) (tS T.tx X.K W p (ex ⟨P.G, P.W, run P k⟩ (.asg n i e))) := by
        intro hsw
        rw [ex_asg]
        have ps := ps_set (i := i) (pos := pos) (pos' := py) hXN hXi h3 (soA C F ha) (hsw _) h4
        cases n with
        | zero => exact ps.mono fun D σ H qq => asg_at (fun σ H Q q => q) (hq i h2) qq
        | succ n => exact ps.monoI fun D σ H hl qq => asgW_at (fun σ H Q q => q) (hq i h2) (hil σ hl) qq
      by_cases hcl : cellN c x = true
      · exact plain fun l => sw_cell (by rw [C.hsc]; exact hcl)
      rw [ex_asg]
      split at hv
      · rw [Bool.or_eq_true] at hv
        replace hv := hv.resolve_left hcl
        simp only [Bool.and_eq_true] at hv
        obtain ⟨⟨hn, he⟩, hsw⟩ := hv
        cases e <;> simp only at he <;> first | (cases he; done) | skip
        rename_i vs it tg cs el
        have hE : okE T P.G N c (.comp vs it tg cs el) v = true := by
          cases n with
          | zero => exact ha
          | succ n =>
            have ha : okW T P.G N c (n + 1) (.comp vs it tg cs el) v = true := ha
            unfold okW at ha
            simp only [Bool.and_eq_true] at ha
            exact ha.2
        obtain ⟨elt, tge, iter, ifs, scope, lpos, rfl, hs, hb, hi, hg, hts, hel⟩ := soLc C F hE
        have hsw' : (match c.sc.kind with | .function => true | _ => false) = true ∧ (match c.sc.names.lookup x with | some .local => true | _ => false) = true ∧ (py.line == lpos.line) = true ∧ (!(scope.names.any fun (n, k) => n == x && (k == .local || k == .cell))) = true := by
          unfold swC at hsw
          simp only [Bool.and_eq_true] at hsw
          exact ⟨hsw.1.1.1, hsw.1.1.2, hsw.1.2, hsw.2⟩
        obtain ⟨z1, z2, z3, z4⟩ := hsw'
        have hk : X.env.scope.kind = .function := by
          rw [C.hsc]
          split at z1
          · assumption
          · cases z1
        have hy : X.env.scope.names.lookup x = some .local := by
          rw [C.hsc]
          split at z2
          · assumption
          · cases z2
        have ok : BlkOk X.N X.env.scope scope (ownL N vs) := by rw [C.hN, C.hsc]; exact blkOk_by hb
        have ps := ps_setLc (i := i) (py := py) (pos := lpos) (spos := pos) C.calm hXN hXi hy (sw_true (l := pos.line) (gs := [⟨tge, iter, ifs, 0⟩]) (elt := elt) hk hy z3 (by simpa using z4)) hi ok hg hts hel (set_of hs)
        cases n with
        | zero =>
          refine ps.monoI fun D σ H hl qq => ?_
          refine asg_at (te := tLc _ _ _ _ _) (fun σ H Q q0 => ?_) (hq i h2) qq
          rw [ownL_snd]
          have q1 := tWd0 q0
          rw [comp_eq] at q1
          exact comp_lc (tW_val q1)
        | succ n =>
          have hn1 : n = 0 := by simpa using hn
          subst hn1
          refine ps.monoI fun D σ H hl qq => ?_
          refine asgW_at (te := tLc _ _ _ _ _) (fun σ H Q q0 => ?_) (hq i h2) (hil σ hl) qq
          rw [ownL_snd]
          exact comp_lc (tWd_eq comp_ret q0)
      · have ps := ps_set (i := i) (pos := pos) (pos' := py) hXN hXi h3 (soA C F ha) (sw_none hv) h4
        cases n with
        | zero => exact ps.mono fun D σ H qq => asg_at (fun σ H Q q => q) (hq i h2) qq
        | succ n => exact ps.monoI fun D σ H hl qq => asgW_at (fun σ H Q q => q) (hq i h2) (hil σ hl) qq
    · cases h
  | .unp ts e, c, W, X, p, q, st, hq, C, F, hp, h => by
    unfold okS at h
    split at h
    · simp only [Bool.and_eq_true] at h
      obtain ⟨⟨ht, he⟩, hv2⟩ := h
      exact (ps_asg (soE e _ C F he).1 (soT hq C.nd C.hN C.hsc C.calm F (.tp ts) _ ht) sws_tup (pure_store C.hsc hv2) (by rfl)).mono fun D σ H qq => by rw [ex] at qq; exact unp_at qq
    · cases h
  | .aug op i e, c, W, X, p, q, st, hq, C, F, hp, h => by
    unfold okS at h
    split at h
    · rename_i x p1 op' v pos
      simp only [Bool.and_eq_true, decide_eq_true_eq] at h
      obtain ⟨⟨⟨rfl, ho⟩, ht⟩, he⟩ := h
      obtain ⟨h1, h2, h3, h4⟩ := tgt_of C.hsc F ht
      have hXN : X.N.Nodup := by rw [C.hN]; exact C.nd
      have hXi : X.N[i]? = some x := by rw [C.hN]; exact h1
      rw [ex]
      rcases ho with rfl | rfl
      · exact (ps_aug hXN hXi h3 (soE e _ C F he).1 ip_add h4).mono fun D σ H qq => aug_at (hq i h2) (fun a d r z => augF_add z) qq
      · exact (ps_aug hXN hXi h3 (soE e _ C F he).1 ip_sub h4).mono fun D σ H qq => aug_at (hq i h2) (fun a d r z => augF_sub z) qq
    · cases h
  | .sto n i a e, c, W, X, p, q, st, hq, C, F, hp, h => by
    unfold okS at h
    split at h
    · simp only [Bool.and_eq_true] at h
      obtain ⟨⟨⟨⟨hn, hs⟩, hv⟩, ha⟩, he⟩ := h
      rw [ex_sto]
      exact (ps_asg (soA C F he) (pg_sub (nm_pe C hn) (soE a _ C F ha).1 set_list (asn_sub hs)) (sws_none hv) (sto_none _ _) (by rfl)).mono fun D σ H qq => sto_at (fun σ H Q q => q) qq
    · cases h
  | .sto2 .., c, W, X, p, q, st, hq, C, F, hp, h => by simp [okS] at h
  | .app n i e, c, W, X, p, q, st, hq, C, F, hp, h => by
    unfold okS at h
    split at h
    · simp only [Bool.and_eq_true, decide_eq_true_eq] at h
      obtain ⟨⟨⟨⟨rfl, hn⟩, hs⟩, hl⟩, he⟩ := h
      rw [ex_app]
      exact (ps_expr (pe_bm PySem.F.plainAttrs_list PySem.F.slot_list_append PySem.F.type_list_append mt_append (nm_pe C hn) (one_pe (soA C F he) hs) (by rfl) (few_ok hs) hl (star_cons hs) (by rfl)) (by rfl)).mono fun D σ H qq => app_at (fun σ H Q q => q) qq
    · cases h
  | .app2 .., c, W, X, p, q, st, hq, C, F, hp, h => by simp [okS] at h
  | .sdapp .., c, W, X, p, q, st, hq, C, F, hp, h => by simp [okS] at h
  | .mc i m as, c, W, X, p, q, st, hq, C, F, hp, h => by
    unfold okS at h
    split at h
    · split at h
      · simp only [Bool.and_eq_true, decide_eq_true_eq] at h
        obtain ⟨⟨rfl, hn⟩, hl⟩ := h
        exact (ps_expr (pe_bm0 PySem.F.plainAttrs_list PySem.F.slot_list_reverse PySem.F.type_list_reverse mt_reverse (nm_pe C hn) (by rfl) hl) (by rfl)).mono fun D σ H qq => by rw [ex] at qq; exact mc_at qq
      · cases h
    · split at h
      · simp only [Bool.and_eq_true, decide_eq_true_eq] at h
        obtain ⟨⟨rfl, hn⟩, hl⟩ := h
        exact (ps_expr (pe_bm0 PySem.F.plainAttrs_list PySem.F.slot_list_clear PySem.F.type_list_clear mt_clear (nm_pe C hn) (by rfl) hl) (by rfl)).mono fun D σ H qq => by rw [ex] at qq; exact mc_clear_at qq
      · cases h
    · split at h
      · simp only [Bool.and_eq_true, decide_eq_true_eq] at h
        obtain ⟨⟨⟨⟨rfl, hn⟩, hs⟩, hl⟩, he⟩ := h
        exact (ps_expr (pe_bm PySem.F.plainAttrs_list PySem.F.slot_list_extend PySem.F.type_list_extend mt_extend (nm_pe C hn) (one_pe (soW _ _ C F he) hs) (by rfl) (few_ok hs) hl (star_cons hs) (by rfl)) (by rfl)).mono fun D σ H qq => by rw [ex] at qq; exact ext_at (fun σ H Q q => q) qq
      · cases h
    · cases h
  | .frz _, c, W, X, p, q, st, hq, C, F, hp, h => by simp [okS] at h
  | .exp e, c, W, X, p, q, st, hq, C, F, hp, h => by
    unfold okS at h
    split at h
    · simp only [Bool.and_eq_true] at h
      exact (ps_expr (soE e _ C F h.1).1 (sw_none h.2)).mono fun D σ H qq => by rw [ex] at qq; exact exp_at qq
    · cases h
  | .ret n e, c, W, X, p, q, st, hq, C, F, hp, h => by
    unfold okS at h
    split at h
    · rw [ex_ret]
      exact (ps_ret (soA C F h)).mono fun D σ H qq => ret_at (fun σ H Q q => q) qq
    · cases h
  | .reto i, c, W, X, p, q, st, hq, C, F, hp, h => by
    unfold okS at h
    split at h
    · exact (ps_ret (nm_pe C h)).mono fun D σ H qq => by rw [ex] at qq; exact reto_at qq
    · cases h
  | .retn, c, W, X, p, q, st, hq, C, F, hp, h => by
    unfold okS at h
    split at h
    · exact ps_retN.mono fun D σ H qq => by rw [ex] at qq; exact retn_at qq
    · cases h
  | .ite t a b, c, W, X, p, q, st, hq, C, F, hp, h => by
    unfold okS at h
    split at h
    · simp only [Bool.and_eq_true] at h
      obtain ⟨⟨⟨h0, ht⟩, ha⟩, hb⟩ := h
      exact (ps_if ((soE t _ C F ht).2 h0) (soSs a _ hq C F hp ha) (soSs b _ hq C F hp hb)).mono fun D σ H qq => by rw [ex] at qq; exact ite_at qq
    · cases h
  | .for_ it tg b, c, W, X, p, q, st, hq, C, F, hp, h => by
    unfold okS at h
    split at h
    · simp only [Bool.and_eq_true] at h
      obtain ⟨⟨⟨hs, hi⟩, ht⟩, hb⟩ := h
      exact (ps_for hp C.calm (soI it _ _ C F hi) (soT hq C.nd C.hN C.hsc C.calm F tg _ ht) (soSs b _ hq C F hp hb) (set_of hs)).mono fun D σ H qq => by rw [ex] at qq; exact for_at qq
    · cases h
  | .whl t b, c, W, X, p, q, st, hq, C, F, hp, h => by
    unfold okS at h
    split at h
    · simp only [Bool.and_eq_true] at h
      obtain ⟨⟨h0, ht⟩, hb⟩ := h
      exact (ps_while hp ((soE t _ C F ht).2 h0) (soSs b _ hq C F hp hb)).mono fun D σ H qq => by rw [ex] at qq; exact whl_at qq
    · cases h
  | .brk, c, W, X, p, q, st, hq, C, F, hp, h => by
    unfold okS at h
    split at h
    · exact ps_break.mono fun D σ H qq => by rw [ex] at qq; exact bk_at qq
    · cases h
  | .cnt, c, W, X, p, q, st, hq, C, F, hp, h => by
    unfold okS at h
    split at h
    · exact ps_continue.mono fun D σ H qq => by rw [ex] at qq; exact ct_at qq
    · cases h
  | .pas, c, W, X, p, q, st, hq, C, F, hp, h => by
    unfold okS at h
    split at h
    · exact ps_pass.mono fun D σ H qq => by rw [ex] at qq; exact nx_at qq
    · cases h
  | .bad, c, W, X, p, q, st, hq, C, F, hp, h => ps_bad fun e => by rw [ex]
  | .tryN b, c, W, X, p, q, st, hq, C, F, hp, h => by
    unfold okS at h
    split at h
    · rename_i body h0 hs pos
      have C' : Cz T P k N c.sc W0 X.nox := ⟨C.hN, C.nd, C.hsc, C.calm, fun u s' x => by obtain ⟨_, _, _, _, _, _, _, _, _, _, _, _, _, _, _, _, w⟩ := x; exact w, C.room, C.gd, C.fx⟩
      have F' : Fc c X.nox := F
      refine (ps_try_thru0 (soSs b _ hq C' F' PassesOwn.never h)).mono fun D σ H qq => ?_
      obtain ⟨Hs, e, A, R, g⟩ := qq
      rw [ex] at g
      refine ⟨Hs, e, A, R, ?_⟩
      unfold tryM at g
      cases q1 : exs (cnOf P k) b e with
      | ok f e' => rw [q1] at g; exact g
      | ex x e' => rw [q1] at g; exact g.elim
      | bad => rw [q1] at g; exact g.elim
    · cases h
  | .par is as, c, W, X, p, q, st, hq, C, F, hp, h => by
    unfold okS at h
    have hXN : X.N.Nodup := by rw [C.hN]; exact C.nd
    split at h
    · rename_i ts k1 p1 vs k2 p2 pos
      simp only [Bool.and_eq_true] at h
      obtain ⟨hk, h⟩ := h
      split at h
      · rename_i i j x px y py
        simp only [Bool.and_eq_true, decide_eq_true_eq, beq_iff_eq] at h
        obtain ⟨⟨⟨⟨⟨⟨⟨⟨⟨h1, h2⟩, h3⟩, h4⟩, h5⟩, h6⟩, h7⟩, h8⟩, h9⟩, h10⟩ := h
        match vs, h8, h9, h10 with
        | [a, b], _, h9, h10 =>
          exact (ps_par C.calm hXN (by rw [C.hN]; exact h1) (by rw [C.hN]; exact h2) h3 (by rw [C.hsc]; exact locB_ok h6) (by rw [C.hsc]; exact locB_ok h7) (soEs as _ C F h9) (sw_names C.hsc (kindB_ok hk) h10) (by rfl)).mono fun D σ H qq => by
            rw [ex] at qq
            exact par_at (hq i h4) (hq j h5) qq
      · rename_i i j l x px y py z pz
        simp only [Bool.and_eq_true, decide_eq_true_eq, beq_iff_eq] at h
        obtain ⟨⟨⟨⟨⟨⟨⟨⟨⟨⟨⟨⟨⟨⟨h1, h2⟩, h3⟩, n1⟩, n2⟩, n3⟩, q1⟩, q2⟩, q3⟩, l1⟩, l2⟩, l3⟩, h8⟩, h9⟩, h10⟩ := h
        match vs, h8, h9, h10 with
        | [a, b, d], _, h9, h10 =>
          exact (ps_par3 C.calm hXN (by rw [C.hN]; exact h1) (by rw [C.hN]; exact h2) (by rw [C.hN]; exact h3) n1 n2 n3 (by rw [C.hsc]; exact locB_ok l1) (by rw [C.hsc]; exact locB_ok l2) (by rw [C.hsc]; exact locB_ok l3) (soEs as _ C F h9) (sw_names C.hsc (kindB_ok hk) h10) (by rfl)).mono fun D σ H qq => by
            rw [ex] at qq
            exact par3_at (hq i q1) (hq j q2) (hq l q3) qq
      · cases h
    · cases h
theorem soSs : ∀ (irs : Sts) {c : Ctx} {W : WX} {X : Cx} {p : Nat → Prop} {q : Nat → Bool} (sts : List Stmt), (∀ i, q i = true → ¬ p i) → Cz T P k N c.sc W X → Fc c X → PassesOwn (model X.prog X.w) X.A X.env X.xe → okSs T P.G N c q irs sts = true → PSs X sts (tS T.tx X.K W p (exs (cnOf P k) irs))
  | .nil, c, W, X, p, q, sts, hq, C, F, hp, h => by
    unfold okSs at h
    split at h
    · exact pss_nil.mono fun D σ H qq => by rw [exs] at qq; exact nx_at qq
    · cases h
  | .cons s ss, c, W, X, p, q, sts, hq, C, F, hp, h => by
    unfold okSs at h
    split at h
    · rename_i i
      exact (soSs ss sts hq C F hp h).mono fun D σ H qq => by
        rw [exs, ex] at qq
        exact frz_at qq
    · split at h
      · simp only [Bool.and_eq_true] at h
        exact (pss_cons (soS s _ hq C F hp h.1) (soSs ss _ hq C F hp h.2)).mono fun D σ H qq => by rw [exs] at qq; exact seq_at qq
      · cases h
end
end
end Pv

/-! PvS19: bodies by the checker; the binding of arguments; the law's end. -/
namespace Pv
open PySem PySem.Spec PyProof.Rows L2

/-- may be stored to -/
def freeS (ps : List Nat) (i : Nat) : Bool := match ps[i]? with
  | some (_ + 1) => false
  | _ => true
theorem body_ok [TabC] {T : Txt} {P : Pr} {prog : Program} {w : World} {K : PySem.W.Frag} {mg : Str → Option Value} {base : Heap} {N : List Str} {sc : Scope} {F : Fd} {body : List Stmt} {lm : Bool}
    (h : okSs T P.G N ⟨sc, cellsOf sc, lm⟩ (freeS F.ps) F.body body = true) : BodyOk T P prog w K mg base N sc F body lm := fun k W X _ _ _ _ _ C hfn hl hp =>
  soSs F.body body (p := ownP F.ps) (q := freeS F.ps) (fun i hi ⟨m, hm⟩ => by
    unfold freeS at hi
    rw [hm] at hi
    cases hi) C ⟨fun x _ => hfn x, hl⟩ hp h

/-! ### the binding of arguments -/
/-- a def of the text as it is written: the name, the whole name, its statement, the names of its slots, its parameters, its defaults -/
structure DefS where
  name : Str
  qual : Str
  st : Stmt
  N : List Str
  ps : List Str
  dfl : List D
/-- what stands for the defaults -/
def DflK (K : PySem.W.Frag) (dV : Value) (ds : List D) : Prop := (ds = [] ∧ dV = .none) ∨ (ds ≠ [] ∧ ∃ (T : Addr) (o : Obj) (its : List Value) (n : Nat) (vs : List V), dV = .ref T ∧ K.lookup T = some o ∧ o.data = .seq its.toArray n ∧ ds.map immV = vs.map some ∧ Vals vs its)
abbrev DefS.fd (d : DefS) (dV kV doc pm : Value) (an : Option Addr) (cdv ct : Value) : FuncData := PySem.W.fnOf d.name d.qual (defArgs d.st) (defBody d.st) (defScope d.st) dV kV doc pm an cdv ct
/-- a call of that form binds -/
def FormOk (DS : List DefS) (fm : Fm) : Prop := ∀ d, DS[fm.f]? = some d → ∀ (K : PySem.W.Frag) (dV kV doc pm : Value) (an : Option Addr) (cdv ct : Value), DflK K dV d.dfl →
  ∀ (s : Shared) (us ws : List Value), K.In s.heap → us.length = fm.np → ws.length = fm.ks.length → ∃ zs, BindsTo s (d.fd dV kV doc pm an cdv ct) ⟨us, fm.ks.zip ws⟩ (d.ps.zip zs) ∧ SrcV fm.src (us ++ ws) zs
/-- no defaults: all parameters are written -/
theorem form0 {DS : List DefS} {fm : Fm} {d : DefS} (hd : DS[fm.f]? = some d) (hn : d.dfl = []) (g : List Value → List Value → List Value)
    (h : ∀ (kV doc pm : Value) (an : Option Addr) (cdv ct : Value) (us ws : List Value), us.length = fm.np → ws.length = fm.ks.length → bindArgs (d.fd .none kV doc pm an cdv ct) ⟨us, fm.ks.zip ws⟩ = pure (d.ps.zip (g us ws)) ∧ SrcV fm.src (us ++ ws) (g us ws)) : FormOk DS fm := by
  intro d' hd' K dV kV doc pm an cdv ct hD s us ws KX hu hw
  rw [hd] at hd'
  cases hd'
  rcases hD with ⟨_, rfl⟩ | ⟨e, _⟩
  · obtain ⟨h1, h2⟩ := h kV doc pm an cdv ct us ws hu hw
    exact ⟨_, .of_eq h1, h2⟩
  · exact absurd hn e
/-- with defaults -/
theorem form1 {DS : List DefS} {fm : Fm} {d : DefS} (hd : DS[fm.f]? = some d) (hn : d.dfl ≠ []) (g : List Value → List Value → List Value → List Value)
    (h : ∀ (T : Addr) (kV doc pm : Value) (an : Option Addr) (cdv ct : Value) (us ws its : List Value), us.length = fm.np → ws.length = fm.ks.length → its.length = d.dfl.length →
      ∃ k, bindArgs (d.fd (.ref T) kV doc pm an cdv ct) ⟨us, fm.ks.zip ws⟩ = seqItems? (.ref T) >>= k ∧ k (some its.toArray) = pure (d.ps.zip (g us ws its)))
    (h2 : ∀ (us ws its : List Value) (vs : List V), us.length = fm.np → ws.length = fm.ks.length → d.dfl.map immV = vs.map some → Vals vs its → SrcV fm.src (us ++ ws) (g us ws its)) : FormOk DS fm := by
  intro d' hd' K dV kV doc pm an cdv ct hD s us ws KX hu hw
  rw [hd] at hd'
  cases hd'
  rcases hD with ⟨e, _⟩ | ⟨_, T, o, its, n, vs, rfl, lT, oT, e1, rv⟩
  · exact absurd e hn
  · have hl : its.length = d.dfl.length := by
      have a := congrArg List.length e1
      simp only [List.length_map] at a
      rw [a, rv.length]
    obtain ⟨k, b1, b2⟩ := h T kV doc pm an cdv ct us ws its hu hw hl
    refine ⟨_, L2.BindsTo.of_looks fun M => ?_, h2 us ws its vs hu hw e1 rv⟩
    rw [b1]
    exact looks_items KX lT oT (.of_pure b2)

/-- what the top has written of a def -/
def DefK (K : PySem.W.Frag) (d : DefS) : Prop := ∃ (a : Addr) (oc : Value) (od : Option Addr) (dV kV doc pm : Value) (an : Option Addr) (cdv ct : Value) (osl : Array (Option Value)),
  PySem.W.nsIn K mainGlobals d.name = some (some (.ref a)) ∧ PySem.W.keepIn K (.ref a) = true ∧ K.lookup a = some ⟨oc, od, .func (d.fd dV kV doc pm an cdv ct), osl⟩ ∧ PySem.W.codeIn K cdv d.qual = true ∧ DflK K dV d.dfl
/-- what the checker tells of the text -/
structure Chk (T : Txt) (P : Pr) (DS : List DefS) : Prop where
  fn : T.fn = DS.map (·.name)
  ln : P.F.length = DS.length
  ck : ∀ (f : Nat) (d : DefS) (F : Fd), DS[f]? = some d → P.F[f]? = some F → FnScope d.N d.ps (defScope d.st) ∧ F.n = d.N.length ∧ F.ps.length = d.ps.length ∧ okSs T P.G d.N ⟨defScope d.st, cellsOf (defScope d.st), T.lam.contains d.qual⟩ (freeS F.ps) F.body (defBody d.st) = true
  fms : ∀ fm ∈ T.fms, FormOk DS fm
theorem nd_inj {α β : Type} {f : α → β} : ∀ {l : List α}, (l.map f).Nodup → ∀ {a b : α}, a ∈ l → b ∈ l → f a = f b → a = b
  | [], _, _, _, h, _, _ => by cases h
  | x :: l, nd, a, b, ha, hb, e => by
    rw [List.map_cons, List.nodup_cons] at nd
    rcases List.mem_cons.mp ha with q1 | q1
    · rcases List.mem_cons.mp hb with q2 | q2
      · rw [q1, q2]
      · exact (nd.1 (List.mem_map.mpr ⟨b, q2, by rw [← e, q1]⟩)).elim
    · rcases List.mem_cons.mp hb with q2 | q2
      · exact (nd.1 (List.mem_map.mpr ⟨a, q1, by rw [e, q2]⟩)).elim
      · exact nd_inj nd.2 q1 q2 e
/-- the tables of the defs with lambdas -/
def lamL (K : PySem.W.Frag) (l : List Str) : List (Addr × Str) := l.map fun q => ((He.cT K (q, none)).2, (q ++ ".<locals>.") ++ "<lambda>")
def lamD (l : List Str) : List He.Defn := l.map fun q => (q, none)
theorem lamC_of {l : List Str} {K : PySem.W.Frag} {mg : Str → Option Value} {base : Heap} {q : Str} {a : Addr} {oc : Value} {od : Option Addr} {fd : FuncData} {osl : Array (Option Value)}
    (nd : (l.map fun q => (He.cT K (q, none)).2).Nodup) (hq : q ∈ l) (hn : PySem.W.nsIn K mainGlobals q = some (some (.ref a))) (lk : K.lookup a = some ⟨oc, od, .func fd, osl⟩) (cd : PySem.W.codeIn K fd.code fd.qualname = true)
    (tb : LamX.TabB base mg (He.cT K (q, none)).1 (He.cT K (q, none)).2) : @LamC ⟨lamL K l⟩ mg base fd.code q := by
  obtain ⟨c, e⟩ := He.codeIn_ref cd
  have ga : He.ga K q = a := by unfold He.ga; rw [hn]
  have ec : (He.cT K (q, none)).1 = c := He.codeOf_eq (p := (q, none)) (by show K.lookup (He.ga K q) = _; rw [ga]; exact lk) e
  refine ⟨c, (He.cT K (q, none)).2, e, by rw [← ec]; exact tb, List.mem_map.mpr ⟨q, hq, rfl⟩, fun p hp z => ?_⟩
  obtain ⟨q', hq', rfl⟩ := List.mem_map.mp hp
  have : q' = q := nd_inj nd hq' hq z
  rw [this]
theorem def_ok [TabC] {T : Txt} {P : Pr} {DS : List DefS} (Ck : Chk T P DS) {prog : Program} {w : World} {K : PySem.W.Frag} {mg : Str → Option Value} {base : Heap} (hmg : ∀ x v, PySem.W.nsIn K mainGlobals x = some (some v) → mg x = some v)
    (hK : ∀ d ∈ DS, DefK K d) (hL : ∀ d ∈ DS, T.lam.contains d.qual = true → ∀ (a : Addr) (oc : Value) (od : Option Addr) (fd : FuncData) (osl : Array (Option Value)), fd.qualname = d.qual → PySem.W.nsIn K mainGlobals d.name = some (some (.ref a)) → K.lookup a = some ⟨oc, od, .func fd, osl⟩ → PySem.W.codeIn K fd.code d.qual = true → LamC mg base fd.code d.qual) (f : Nat) (x : Str) (hx : T.fn[f]? = some x) : DefOk T P prog w K mg base f x := by
  rw [Ck.fn, List.getElem?_map] at hx
  cases hd : DS[f]? with
  | none => rw [hd] at hx; cases hx
  | some d =>
    rw [hd] at hx
    cases hx
    obtain ⟨a, oc, od, dV, kV, doc, pm, an, cdv, ct, osl, h1, h2, h3, h4, h5⟩ := hK d (List.mem_of_getElem? hd)
    have hf : f < P.F.length := by rw [Ck.ln]; exact (List.getElem?_eq_some_iff.mp hd).1
    obtain ⟨c1, c2, c3, c4⟩ := Ck.ck f d _ hd (List.getElem?_eq_getElem hf)
    exact ⟨a, d.name, d.qual, defArgs d.st, defBody d.st, defScope d.st, dV, kV, doc, pm, cdv, ct, oc, an, od, osl, d.N, d.ps, _, _, hmg _ _ h1, h2, h3, h4, c1, List.getElem?_eq_getElem hf, c2, c3, body_ok c4, fun hl => hL d (List.mem_of_getElem? hd) hl a oc od _ osl rfl h1 h3 h4,
      fun fm hm hf' s us ws KX hu hw => Ck.fms fm hm d (by rw [hf']; exact hd) K dV kV doc pm an cdv ct h5 s us ws KX hu hw⟩

/-! ### the law's end -/
abbrev tabO : Obj := { cls := .none, data := .fields #[] }
open Classical in
/-- the abstract heap at the law's call: the script alone, where it is no object of the module; the tables ts -/
noncomputable def lawH (K : PySem.W.Frag) (a : Addr) (ob : Obj) (xs : List V) (ts : List Addr) : Hp := fun b => if b = a ∧ K.lookup a = none then some (.frz ob (.lst xs)) else if b ∈ ts then some (.tbl #[]) else none
section
variable {K : PySem.W.Frag} {a b : Addr} {ob : Obj} {xs : List V} {ts : List Addr}
theorem lawH_some {u : HO} (h : lawH K a ob xs ts b = some u) : (b = a ∧ K.lookup a = none ∧ u = .frz ob (.lst xs)) ∨ (b ∈ ts ∧ u = .tbl #[]) := by
  unfold lawH at h
  split at h
  · rename_i q; cases h; exact .inl ⟨q.1, q.2, rfl⟩
  · split at h
    · rename_i q; cases h; exact .inr ⟨q, rfl⟩
    · cases h
/-- what is no list of that place, no table, is not tracked -/
theorem lawH_free {h : Heap} (ha : h.get? a = some ob) (ht : ∀ b ∈ ts, h.get? b = some tabO) {o : Obj} (hb : h.get? b = some o) (n : o ≠ ob) (n2 : o ≠ tabO) : lawH K a ob xs ts b = none := by
  cases q : lawH K a ob xs ts b with
  | none => rfl
  | some u =>
    rcases lawH_some q with ⟨rfl, _⟩ | ⟨h1, _⟩
    · rw [ha] at hb
      exact absurd (Option.some.inj hb).symm n
    · rw [ht b h1] at hb
      exact absurd (Option.some.inj hb).symm n2
end
section
variable {P : Program} {w : World} {K : PySem.W.Frag} {a : Addr} {s : Shared} {vs : List Value} {ns : List Int} {ts : List Addr}
abbrev scrO (vs : List Value) : Obj := { cls := .type "list", data := .seq vs.toArray }
theorem lawH_seq (KX : K.In s.heap) (ha : s.heap.get? a = some (scrO vs)) (hv : Vals (ns.map V.int) vs) (hz : ns.length ≤ sizeLine) : SqL K (lawH K a (scrO vs) (ns.map V.int) ts) a (ns.map V.int) := by
  cases q : K.lookup a with
  | none => exact .inl (.inr ⟨scrO vs, by unfold lawH; rw [if_pos ⟨rfl, q⟩]⟩)
  | some o =>
    have e := (KX a o q).symm.trans ha
    cases Option.some.inj e
    have l := hv.length
    rw [List.length_map] at l
    exact .inr ⟨_, vs.toArray, _, q, rfl, rfl, rfl, by simp; omega, by simpa using hv⟩
theorem lawH_tab (ha : s.heap.get? a = some (scrO vs)) (ht : ∀ b ∈ ts, s.heap.get? b = some tabO) {b : Addr} (hb : b ∈ ts) : lawH K a (scrO vs) (ns.map V.int) ts b = some (.tbl #[]) := by
  have n : b ≠ a := fun z => by
    have e := ht b hb
    rw [z, ha] at e
    cases e
  unfold lawH
  rw [if_neg (fun z => n z.1), if_pos hb]
theorem lawH_ok (ha : s.heap.get? a = some (scrO vs)) (ht : ∀ b ∈ ts, s.heap.get? b = some tabO) (hv : Vals (ns.map V.int) vs) (hz : ns.length ≤ sizeLine) : HOk P w (lawH K a (scrO vs) (ns.map V.int) ts) s.heap := fun b u h => by
  rcases lawH_some h with ⟨rfl, _, rfl⟩ | ⟨h1, rfl⟩
  · refine ⟨ha, ?_⟩
    show (ns.map V.int).length ≤ sizeLine ∧ ∃ its n, _
    exact ⟨by simpa using hz, vs, _, hv, ha⟩
  · exact ht b h1
/-- the state of the call as the def sees it -/
theorem law_env {mg mb : Str → Option Value} {cs : List (Addr × Addr)} (KX : K.In s.heap) (hns : s.heap.Ns mainGlobals mg) (hb : s.heap.Ns builtinsNs mb) (hbb : ∀ x : Str, x ≠ "__name__" → mb x = bootBuiltins x) (hlim : s.heap.NoLimit) (hg : s.gens = #[])
    (hbm : ∃ (bm : Addr) (ob : Obj), mg "__builtins__" = some (.ref bm) ∧ bm ≠ builtinsNs ∧ s.heap.get? bm = some ob ∧ ob.cls = .type "module" ∧ ob.dict = some builtinsNs ∧ ob.data = .plain)
    (ht : ∀ p ∈ cs, s.heap.get? p.2 = some tabO ∧ K.lookup p.2 = none ∧ PySem.W.codeHdIn K p.1 p.2 = true)
    (ha : s.heap.get? a = some (scrO vs)) (hv : Vals (ns.map V.int) vs) (hz : ns.length ≤ sizeLine) :
    let H := lawH K a (scrO vs) (ns.map V.int) (cs.map (·.2))
    K.In (hidT s.heap H) ∧ (hidT s.heap H).Ns mainGlobals mg ∧ (∀ p ∈ cs, LamX.TabB (hidT s.heap H) mg p.1 p.2) ∧ Env0 P w K mg (hidT s.heap H) callerA [] s H := by
  intro H
  have ht2 : ∀ b ∈ cs.map (·.2), s.heap.get? b = some tabO := fun b hb => by
    obtain ⟨p, hp, rfl⟩ := List.mem_map.mp hb
    exact (ht p hp).1
  have get : ∀ {b : Addr} {o : Obj}, s.heap.get? b = some o → o ≠ scrO vs → o ≠ tabO → (hidT s.heap H).get? b = some o := fun e n1 n2 => hidT_get e (lawH_free ha ht2 e n1 n2)
  have lift : ∀ {b : Addr} {m : Str → Option Value}, s.heap.Ns b m → (hidT s.heap H).Ns b m := fun {b m} q => by
    obtain ⟨o, es, ep, e, d, r⟩ := q
    refine ⟨o, es, ep, get e (fun z => ?_) (fun z => ?_), d, r⟩ <;> (rw [z] at d; cases d)
  have kin : K.In (hidT s.heap H) := fun b o e => by
    refine hidT_get (KX b o e) ?_
    cases q : H b with
    | none => rfl
    | some u =>
      rcases lawH_some q with ⟨rfl, n, _⟩ | ⟨h1, _⟩
      · rw [n] at e; cases e
      · obtain ⟨p, hp, rfl⟩ := List.mem_map.mp h1
        rw [(ht p hp).2.1] at e; cases e
  obtain ⟨mc, l1, l2⟩ := hlim
  refine ⟨kin, lift hns, fun p hp => ?_, rfl, ⟨kin, lift hns, ⟨mb, lift hb, hbb⟩, mc, lift l1, l2⟩, fun b o e => of_hidT e, Nat.le_of_eq (hidT_size _ _), trivial, fun b hb => (by simp [frs] at hb), lawH_ok ha ht2 hv hz, .of_eq hg⟩
  obtain ⟨bm, ob, b1, b2, b3, b4, b5, b6⟩ := hbm
  refine NdefX.tabB_of_K kin (ht p hp).2.2 ⟨bm, ob, b1, b2, fun z => ?_, fun z => ?_, get b3 (fun z => ?_) (fun z => ?_), b4, b5, b6⟩ fun z => ?_
  · obtain ⟨o, es, ep, e, d, _⟩ := hns
    rw [z, e] at b3
    cases b3
    rw [d] at b6; cases b6
  · have e := (ht p hp).1
    rw [← z, b3] at e
    cases e
    cases b4
  · rw [z] at b6; cases b6
  · rw [z] at b6; cases b6
  · obtain ⟨o, es, ep, e, d, _⟩ := hns
    have e2 := (ht p hp).1
    rw [← z, e] at e2
    cases e2
    cases d
/-- the def's promise, told of the law's call -/
theorem law_run {mg mb : Str → Option Value} {k : Nat} {fa : Addr} {fd : FuncData} {x : Str} {sp : Sp} {cs : List (Addr × Addr)} (KX : K.In s.heap) (hns : s.heap.Ns mainGlobals mg) (hb : s.heap.Ns builtinsNs mb) (hbb : ∀ x : Str, x ≠ "__name__" → mb x = bootBuiltins x) (hlim : s.heap.NoLimit) (hg : s.gens = #[])
    (hbm : ∃ (bm : Addr) (ob : Obj), mg "__builtins__" = some (.ref bm) ∧ bm ≠ builtinsNs ∧ s.heap.get? bm = some ob ∧ ob.cls = .type "module" ∧ ob.dict = some builtinsNs ∧ ob.data = .plain)
    (ht : ∀ p ∈ cs, s.heap.get? p.2 = some tabO ∧ K.lookup p.2 = none ∧ PySem.W.codeHdIn K p.1 p.2 = true)
    (ha : s.heap.get? a = some (scrO vs)) (hi : IntsAre vs ns) (hz : ns.length ≤ sizeLine) (hr : Room k callerA) (F : ∀ base : Heap, K.In base → base.Ns mainGlobals mg → (∀ p ∈ cs, LamX.TabB base mg p.1 p.2) → FnG P w K mg base k fa fd [x] sp)
    (bind : BindsTo s fd ⟨[.ref a], []⟩ [(x, .ref a)]) (hsp : ∀ H : Hp, (∀ p ∈ cs, H p.2 = some (.tbl #[])) → SqL K H a (ns.map V.int) → sp [.ref a] H (fun v _ => v = .bl true) fun _ _ _ => False) :
    codeAny (model P w) callerA (.call (.ref fa) ⟨[.ref a], []⟩) (fun r s' => r = .ok (.ret (.bool true)) ∧ OldK s.heap s'.heap ∧ s'.os = s.os ∧ AllBare s'.gens) s := by
  have hv := vals_ints hi
  have ht2 : ∀ b ∈ cs.map (·.2), s.heap.get? b = some tabO := fun b hb => by
    obtain ⟨p, hp, rfl⟩ := List.mem_map.mp hb
    exact (ht p hp).1
  obtain ⟨e1, e2, e4, e3⟩ := law_env (P := P) (w := w) KX hns hb hbb hlim hg hbm ht ha hv hz
  have run := (F _ e1 e2 e4).run callerA [] s _ ⟨[.ref a], []⟩ [.ref a] [.ref a] _ _ hr rfl e3 bind (.cons rfl .nil) (hsp _ (fun p hp => lawH_tab ha ht2 (List.mem_map_of_mem hp)) (lawH_seq KX ha hv hz))
  refine codeAny_mono run fun r s' h => ?_
  match r, h with
  | .error e, h => obtain ⟨_, _, _, _, _, _, _, _, _, _, _, _, z⟩ := h; exact z.elim
  | .ok (.ret u), h =>
    obtain ⟨v, H', os, bare, un, ok', rv, z⟩ := h
    have z : v = .bl true := z
    rw [z] at rv
    have rv : u = .bool true := rv
    rw [rv]
    have kept : ∀ b o, b ∉ cs.map (·.2) → s.heap.get? b = some o → s'.heap.get? b = some o := fun b o nb e => by
      cases q : lawH K a (scrO vs) (ns.map V.int) (cs.map (·.2)) b with
      | none => exact un.keep b o e q (by simp [frs]) (by simp)
      | some u' =>
        rcases lawH_some q with ⟨rfl, _, rfl⟩ | ⟨h1, _⟩
        · obtain ⟨there, _⟩ := ok' b _ (un.frzs b _ _ q)
          rw [ha] at e
          rw [there, ← e]
        · exact absurd h1 nb
    have more : ∀ p ∈ cs, ∃ m : Array Value, s'.heap.get? p.2 = some { cls := .none, data := .fields m } := fun p hp => by
      obtain ⟨m, y⟩ := un.tbls p.2 #[] (lawH_tab ha ht2 (List.mem_map_of_mem hp))
      exact ⟨_, ok' _ _ y⟩
    refine ⟨rfl, ⟨fun b o e => ?_, fun b o e => ?_⟩, os, bare⟩
    · by_cases nb : b ∈ cs.map (·.2)
      · obtain ⟨p, hp, rfl⟩ := List.mem_map.mp nb
        obtain ⟨m, y⟩ := more p hp
        rw [(ht p hp).1] at e
        cases e
        exact .inr (.inl ⟨((PySem.W.codeHd_of_K KX (ht p hp).2.2).tab (ht p hp).1).isCodeTable, rfl, #[], m, rfl, by rw [Array.empty_append]; exact y⟩)
      · exact .inl (kept b o nb e)
    · by_cases nb : b ∈ cs.map (·.2)
      · obtain ⟨p, hp, rfl⟩ := List.mem_map.mp nb
        obtain ⟨m, y⟩ := more p hp
        exact ⟨_, y⟩
      · exact ⟨o, kept b o nb e⟩
end
theorem rp_ints {K : PySem.W.Frag} {H : Hp} : ∀ ns : List Int, RpAll K H (ns.map V.int) (ns.map PyData.int)
  | [] => .nil
  | n :: ns => .cons (.int n) (rp_ints ns)
open Classical in
/-- what the interpreter tells of the law -/
theorem sp_law [TabC] {T : Txt} {K : PySem.W.Frag} {P : Pr} {k f : Nat} {n : Nat} (h : ∀ ns : List Int, ns.length ≤ n → ∃ m o, run P k f [.sh (.list (ns.map PyData.int))] = .ok m (.bool true) o) (H : Hp) (a : Addr) (ns : List Int) (hl : ns.length ≤ n) (tb : ∀ p ∈ TabC.T, H p.1 = some (.tbl #[])) (hS : SqL K H a (ns.map V.int)) :
    spF T K P k f [.ref a] H (fun v _ => v = .bl true) fun _ _ _ => False := by
  obtain ⟨m, o, e⟩ := h ns hl
  have isT : ∀ b, isTab b → H b = some (.tbl #[]) := fun b ⟨p, hp, z⟩ => by rw [← z]; exact tb p hp
  have hS' : SqL K (fun b => if isTab b then none else H b) a (ns.map V.int) := by
    have na : ∀ u, H a = some u → (∀ ps, u ≠ .tbl ps) → (if isTab a then none else H a) = some u := fun u e n => by
      rw [if_neg (fun z => by rw [isT a z] at e; exact n _ (Option.some.inj e).symm)]
      exact e
    rcases hS with (h | ⟨o, h⟩) | h
    · exact .inl (.inl (na _ h fun _ z => by cases z))
    · exact .inl (.inr ⟨o, na _ h fun _ z => by cases z⟩)
    · exact .inr h
  refine ⟨fun b => if isTab b then none else H b, [.sh (.list (ns.map PyData.int))], fun _ => [], ⟨rfl, fun b u h => ?_, fun i d hi => ?_, fun i m d hi => ?_, fun _ => List.nodup_nil, fun _ _ _ h => (nomatch h), fun _ _ h => (nomatch h), fun _ _ => rfl, fun p hp => LamX.TabS.nil (tb p hp), fun b z => if_pos z⟩, ?_⟩
  · split at h
    · cases h
    · exact h
  · cases i with
    | zero => cases hi; exact ⟨_, rfl, .lst hS' (rp_ints ns)⟩
    | succ i => simp at hi
  · cases i with
    | zero => cases hi
    | succ i => simp at hi
  · rw [e]
    intro v H' Hs' A' l st R' ow fr
    cases m with
    | zero => exact Rp.bool_inv ow.1
    | succ m => rcases ow with ⟨_, _, _, _, _, z, _⟩ | ⟨_, _, _, _, _, z, _⟩ <;> cases z
end Pv

/-! PvS20: what the head tells of the text. -/
namespace Pv
open PySem PySem.Spec PyProof.Rows L2

theorem and2 {a b : Bool} (h : (a && b) = true) : a = true ∧ b = true := Bool.and_eq_true_iff.mp h
/-! ### constants of the module -/
def headB {α : Type} (f : α → Bool) : List α → Bool
  | u :: _ => f u
  | [] => false
theorem headB_ok {α : Type} {f : α → Bool} {us : List α} (h : headB f us = true) : ∃ u, us = u :: us.tail ∧ f u = true := by
  cases us with
  | nil => cases h
  | cons u r => exact ⟨u, rfl, h⟩
/-- a tuple's items -/
def tupI (K : PySem.W.Frag) : Value → Option (List Value)
  | .ref a => (match K.lookup a with
    | some ⟨.type c, _, .seq its _, _⟩ => if decide (c = "tuple") && decide (its.size ≤ sizeLine) then some its.toList else none
    | _ => none)
  | _ => none
theorem tupI_ok {K : PySem.W.Frag} {u : Value} {us : List Value} (h : tupI K u = some us) : ∃ a, u = .ref a ∧ ∀ H vs, Vals vs us → SqT K H a vs := by
  cases u with
  | ref a =>
    unfold tupI at h
    simp only at h
    cases q : K.lookup a with
    | none => rw [q] at h; cases h
    | some o =>
      obtain ⟨oc, od, dt, osl⟩ := o
      rw [q] at h
      cases oc with
      | type c =>
        cases dt with
        | seq its n =>
          have h : (if decide (c = "tuple") && decide (its.size ≤ sizeLine) then some its.toList else none) = some us := h
          split at h
          · rename_i z
            obtain ⟨z1, z2⟩ := and2 z
            cases h
            exact ⟨a, rfl, fun H vs r => .inr ⟨_, its, n, q, congrArg Value.type (of_decide_eq_true z1), rfl, of_decide_eq_true z2, r⟩⟩
          · cases h
        | _ => cases h
      | _ => cases dt <;> cases h
  | _ => cases h
mutual
/-- u stands for the datum, by what K holds -/
def rpB (K : PySem.W.Frag) : D → Value → Bool
  | .none, u => He.relB .non u
  | .bool b, u => He.relB (.bl b) u
  | .int i, u => He.relB (.int i) u
  | .str x, u => He.relB (.str x) u
  | .tuple ds, u => (match tupI K u with
    | some us => rpBs K ds us
    | none => false)
  | .list _, _ => false
  | .dict _, _ => false
def rpBs (K : PySem.W.Frag) : List D → List Value → Bool
  | [], us => us.isEmpty
  | d :: ds, us => headB (rpB K d) us && rpBs K ds us.tail
end
mutual
theorem rpB_ok {K : PySem.W.Frag} : ∀ {d : D} {u : Value}, rpB K d u = true → ∃ v, RelV v u ∧ ∀ H, Rp K H v d
  | .none, u, h => ⟨.non, He.relB_ok (by rwa [rpB] at h), fun _ => .non⟩
  | .bool b, u, h => ⟨.bl b, He.relB_ok (by rwa [rpB] at h), fun _ => .bl b⟩
  | .int i, u, h => ⟨.int i, He.relB_ok (by rwa [rpB] at h), fun _ => .int i⟩
  | .str x, u, h => ⟨.str x, He.relB_ok (by rwa [rpB] at h), fun _ => .str x⟩
  | .tuple ds, u, h => by
    rw [rpB] at h
    cases q : tupI K u with
    | none => rw [q] at h; cases h
    | some us =>
      rw [q] at h
      obtain ⟨a, rfl, ha⟩ := tupI_ok q
      obtain ⟨vs, r, rp⟩ := rpBs_ok h
      exact ⟨.ref a, rfl, fun H => .tup (ha H vs r) (rp H)⟩
  | .list _, u, h => by rw [rpB] at h; cases h
  | .dict _, u, h => by rw [rpB] at h; cases h
theorem rpBs_ok {K : PySem.W.Frag} : ∀ {ds : List D} {us : List Value}, rpBs K ds us = true → ∃ vs, Vals vs us ∧ ∀ H, RpAll K H vs ds
  | [], us, h => by
    rw [rpBs] at h
    cases us with
    | nil => exact ⟨[], .nil, fun _ => .nil⟩
    | cons _ _ => cases h
  | d :: ds, us, h => by
    rw [rpBs] at h
    obtain ⟨h1, h2⟩ := and2 h
    obtain ⟨u, e, hu⟩ := headB_ok h1
    obtain ⟨v, a, b⟩ := rpB_ok hu
    obtain ⟨vs, c, i⟩ := rpBs_ok h2
    rw [e]
    exact ⟨v :: vs, .cons a c, fun H => .cons (b H) (i H)⟩
end
/-- a dict's entries: texts' keys, values -/
def kvE (K : PySem.W.Frag) (k v : D) (e : DictEntry) : Bool := (match k, e.key with
  | .str x, .str y _ => decide (x = y)
  | _, _ => false) && rpB K v e.val
def kvB (K : PySem.W.Frag) : List (D × D) → List DictEntry → Bool
  | [], es => es.isEmpty
  | p :: r, es => headB (kvE K p.1 p.2) es && kvB K r es.tail
theorem kvB_ok {K : PySem.W.Frag} : ∀ {kvs : List (D × D)} {es : List DictEntry}, kvB K kvs es = true → es.any (·.refKey) = false ∧ ∀ z : Str, match kfind z kvs with
      | none => es.find? (·.key.isStr z) = none
      | some r => ∃ e u v, es.find? (·.key.isStr z) = some e ∧ e.val = u ∧ RelV v u ∧ ∀ H, Rp K H v r
  | [], es, h => by
    cases es with
    | nil => exact ⟨rfl, fun z => rfl⟩
    | cons _ _ => rw [kvB] at h; cases h
  | (k, v) :: r, es, h => by
    rw [kvB] at h
    obtain ⟨h1, h3⟩ := and2 h
    obtain ⟨e, ee, he⟩ := headB_ok h1
    obtain ⟨h4, h2⟩ := and2 he
    obtain ⟨i1, i2⟩ := kvB_ok h3
    generalize es.tail = t at *
    subst ee
    cases k with
    | str x =>
      cases ek : e.key with
      | str y tt =>
        rw [ek] at h4
        have exy : x = y := of_decide_eq_true h4
        subst exy
        obtain ⟨vv, rv, rp⟩ := rpB_ok h2
        refine ⟨?_, fun z => ?_⟩
        · rw [List.any_cons, i1, Bool.or_false]
          unfold DictEntry.refKey
          rw [ek]
        · have hs : (e.key.isStr z) = decide (x = z) := by
            rw [ek]
            show (x == z) = decide (x = z)
            by_cases q : x = z
            · subst q; simp
            · rw [decide_eq_false q]; exact beq_false_of_ne q
          by_cases q : x = z
          · subst q
            rw [show kfind x ((PyData.str x, v) :: r) = some v from if_pos rfl]
            exact ⟨e, e.val, vv, by rw [List.find?_cons, hs, decide_eq_true rfl], rfl, rv, rp⟩
          · rw [show kfind z ((PyData.str x, v) :: r) = kfind z r from if_neg q]
            have e2 : (e :: t).find? (·.key.isStr z) = t.find? (·.key.isStr z) := by rw [List.find?_cons, hs, decide_eq_false q]
            rw [e2]
            exact i2 z
      | _ => rw [ek] at h4; cases h4
    | _ => cases h4
def kdB (K : PySem.W.Frag) (a : Addr) (kvs : List (D × D)) : Bool := match K.lookup a with
  | some ⟨_, _, .dict es _, _⟩ => kvB K kvs es.toList
  | _ => false
theorem kdB_ok {K : PySem.W.Frag} {a : Addr} {kvs : List (D × D)} (h : kdB K a kvs = true) (z : Str) : match kfind z kvs with
      | none => PySem.W.nsIn K a z = some none
      | some r => ∃ u v, PySem.W.nsIn K a z = some (some u) ∧ RelV v u ∧ ∀ H, Rp K H v r := by
  unfold kdB at h
  cases q : K.lookup a with
  | none => rw [q] at h; cases h
  | some o =>
    obtain ⟨oc, od, dt, osl⟩ := o
    rw [q] at h
    cases dt with
    | dict es n =>
      obtain ⟨h1, h2⟩ := kvB_ok h
      have h2 := h2 z
      cases kf : kfind z kvs with
      | none =>
        rw [kf] at h2
        simp only at h2 ⊢
        unfold PySem.W.nsIn
        rw [q]
        simp only [h2, h1]
        rfl
      | some r =>
        rw [kf] at h2
        obtain ⟨e, u, v, e1, e2, e3, e4⟩ := h2
        simp only
        refine ⟨u, v, ?_, e3, e4⟩
        unfold PySem.W.nsIn
        rw [q]
        simp only [e1, e2]
    | _ => cases h
def glB (K : PySem.W.Frag) (x : Str) (d : D) : Bool := match PySem.W.nsIn K mainGlobals x with
  | some (some u) => (match d with
    | .dict kvs => (match u with
      | .ref a => kdB K a kvs
      | _ => false)
    | d => rpB K d u)
  | _ => false
def sysB (K : PySem.W.Frag) : Bool := match K.lookup sysModules with
  | some o => (match o.cls with | .type T => T == "dict" | _ => false)
  | none => false
theorem sysB_ok {K : PySem.W.Frag} (h : sysB K = true) : SysK K := by
  unfold sysB at h
  cases e : K.lookup sysModules with
  | none => rw [e] at h; cases h
  | some o =>
    rw [e] at h
    simp only at h
    split at h
    · rename_i T c
      exact ⟨o, e, by rw [c, eq_of_beq h]⟩
    · cases h
def exB (gl : List Str) (G : List D) (K : PySem.W.Frag) : Bool := sysB K && (decide (gl.length = G.length) && (gl.zip G).all fun p => glB K p.1 p.2)
theorem exB_ok {gl : List Str} {G : List D} {K : PySem.W.Frag} (h : exB gl G K = true) {g : Nat} {x : Str} {d : D} (hx : gl[g]? = some x) (hd : G[g]? = some d) : glB K x d = true := by
  have h2 := List.all_eq_true.mp (and2 (and2 h).2).2 (x, d) ?_
  · exact h2
  · rw [List.mem_iff_getElem?]
    exact ⟨g, by rw [List.getElem?_zip_eq_some]; exact ⟨hx, hd⟩⟩
def keysOf : List (D × D) → List Str
  | [] => []
  | (.str k, _) :: r => k :: keysOf r
  | _ :: r => keysOf r
/-- the module's dicts -/
def dTabs : List Str → List D → List He.Tab
  | x :: xs, .dict kvs :: ds => (fun K => He.ga K x, keysOf kvs) :: dTabs xs ds
  | _ :: xs, _ :: ds => dTabs xs ds
  | _, _ => []
theorem dTabs_mem : ∀ {gl : List Str} {G : List D} {g : Nat} {x : Str} {kvs : List (D × D)}, gl[g]? = some x → G[g]? = some (.dict kvs) → ∃ i : Nat, (dTabs gl G)[i]? = some (fun K => He.ga K x, keysOf kvs)
  | [], _, g, x, kvs, h, _ => by simp at h
  | _ :: _, [], g, x, kvs, _, h => by simp at h
  | y :: ys, d :: ds, 0, x, kvs, h, h' => by
    simp at h h'
    subst h h'
    exact ⟨0, rfl⟩
  | y :: ys, d :: ds, g + 1, x, kvs, h, h' => by
    obtain ⟨i, hi⟩ := dTabs_mem (gl := ys) (G := ds) (g := g) (by simpa using h) (by simpa using h')
    cases d with
    | dict q => exact ⟨i + 1, by simpa [dTabs] using hi⟩
    | _ => exact ⟨i, by simpa [dTabs] using hi⟩
/-! ### defs -/
def dvOf : D → He.Dv
  | .bool b => .bl b
  | .int i => .int i
  | .str x => .str x
  | _ => .non
def DefS.dd (d : DefS) : He.DefD := ⟨(d.name, none), d.name, d.qual, defArgs d.st, defBody d.st, defScope d.st, d.dfl.map dvOf, []⟩
def dflOk (DS : List DefS) : Bool := DS.all fun d => d.dfl.all fun x => (immV x).isSome
theorem dvOf_imm {K : PySem.W.Frag} {d : D} (h : (immV d).isSome = true) : immV d = some ((dvOf d).v K) := by
  cases d <;> first | rfl | cases h
theorem dflK_of {K : PySem.W.Frag} {dV : Value} {ds : List D} (h : ds.all (fun x => (immV x).isSome) = true) (D : DflV K dV ((ds.map dvOf).map (He.Dv.v K))) : DflK K dV ds := by
  rcases D with ⟨e, rfl⟩ | ⟨e, T, o, its, n, rfl, l, od, vs⟩
  · exact .inl ⟨by simpa using e, rfl⟩
  · refine .inr ⟨fun z => e (by rw [z]; rfl), T, o, its, n, _, rfl, l, od, ?_, vs⟩
    rw [List.map_map, List.map_map]
    exact List.map_congr_left fun x hx => dvOf_imm (List.all_eq_true.mp h x hx)
section
variable {T : Txt} {P : Pr} {DS : List DefS} {w : World} {K : PySem.W.Frag} {h : Heap} {mg : Str → Option Value}
theorem defK_of {fa : List He.Fa} (c : He.SaysD fa (DS.map DefS.dd) K) (ok : dflOk DS = true) (hg : ∀ d ∈ DS, He.Fa.glo d.name ∈ fa) (d : DefS) (hd : d ∈ DS) : DefK K d := by
  obtain ⟨fd, F⟩ := c.defs (d := d.dd) (List.mem_map_of_mem hd)
  have hn : PySem.W.nsIn K mainGlobals d.name = some (some (.ref (He.ga K d.name))) := He.eqO_ok (show He.eqO (PySem.W.nsIn K mainGlobals d.name) (some (some (.ref (He.ga K d.name)))) = true from c.facts (hg d hd))
  obtain ⟨oc, od, dV, kV, doc, pm, an, cdv, ct, osl, rfl, lk, cd, D, _⟩ := F.ex
  exact ⟨_, oc, od, dV, kV, doc, pm, an, cdv, ct, osl, hn, F.kp, lk, cd, dflK_of (List.all_eq_true.mp ok d hd) D⟩
/-- the hook's facts -/
def faOf (T : Txt) : List He.Fa := T.nb.map He.Fa.free ++ T.fn.map He.Fa.glo
/-- what more is looked at: constants; each def's table is its own -/
def exT (gl : List Str) (G : List D) (lam : List Str) (K : PySem.W.Frag) : Bool := exB gl G K && decide ((lam.map fun q => (He.cT K (q, none)).2).Nodup)
theorem stat_of (Ck : Chk T P DS) (ok : dflOk DS = true) (nq : (DS.all fun d => decide (d.name = d.qual)) = true) {fa : List He.Fa} (hfa : fa = faOf T) (c : He.SaysX fa (DS.map DefS.dd) (dTabs T.gl P.G) (lamD T.lam) (exT T.gl P.G T.lam) w h K) (X : K.In h) (G : h.Ns mainGlobals mg) (prog : Program) (base : Heap)
    (tb : ∀ p ∈ lamD T.lam, LamX.TabB base mg (He.cT K p).1 (He.cT K p).2) : @Stat ⟨lamL K T.lam⟩ T P prog w K mg base := by
  letI : TabC := ⟨lamL K T.lam⟩
  subst hfa
  obtain ⟨cex, cnd⟩ := and2 c.more
  have hmg : ∀ x v, PySem.W.nsIn K mainGlobals x = some (some v) → mg x = some v := fun x v e => PySem.W.mg_of X G e
  refine ⟨fun x hx => ?_, fun g x d hx hd nd => ?_, fun g x kvs hx hd => ?_, fun f x hx => ?_, sysB_ok (and2 cex).1⟩
  · exact He.free_ok X G (c.t.d.facts (List.mem_append.mpr (.inl (List.mem_map_of_mem hx))))
  · have e := exB_ok cex hx hd
    unfold glB at e
    cases q : PySem.W.nsIn K mainGlobals x with
    | none => rw [q] at e; cases e
    | some o =>
      cases o with
      | none => rw [q] at e; cases e
      | some u =>
        rw [q] at e
        have e2 : rpB K d u = true := by
          cases d with
          | dict kvs => exact absurd rfl (nd kvs)
          | _ => exact e
        obtain ⟨v, a, b⟩ := rpB_ok e2
        exact ⟨v, u, hmg _ _ q, a, b⟩
  · have e := exB_ok cex hx hd
    unfold glB at e
    cases q : PySem.W.nsIn K mainGlobals x with
    | none => rw [q] at e; cases e
    | some o =>
      cases o with
      | none => rw [q] at e; cases e
      | some u =>
        rw [q] at e
        cases u with
        | ref a =>
          obtain ⟨i, hi⟩ := dTabs_mem hx hd
          obtain ⟨es, n, D⟩ := c.t.tab i hi
          have ea : He.ga K x = a := by unfold He.ga; rw [q]
          simp only at D
          rw [ea] at D
          exact ⟨a, es, n, hmg _ _ q, D, kdB_ok e⟩
        | _ => cases e
  · refine def_ok Ck hmg (fun d hd => ?_) (fun d hd hl a oc od fd osl e1 hn lk cd => ?_) f x hx
    rotate_left
    · have hq : d.qual ∈ T.lam := by simpa using hl
      have en : d.name = d.qual := of_decide_eq_true (List.all_eq_true.mp nq d hd)
      exact lamC_of (of_decide_eq_true cnd) hq (by rw [← en]; exact hn) lk (by rw [e1]; exact cd) (tb _ (List.mem_map.mpr ⟨d.qual, hq, rfl⟩))
    refine defK_of c.t.d ok (fun d hd => ?_) d hd
    refine List.mem_append.mpr (.inr (List.mem_map_of_mem ?_))
    rw [Ck.fn]
    exact List.mem_map_of_mem hd
end
/-! ### the checker of a whole text -/
def isLC (k : Option NameKind) : Bool := match k with
  | some .local => true
  | some .cell => true
  | _ => false
def scB (N ps : List Str) (sc : Scope) : Bool := (match sc.kind with | .function => true | _ => false) && (!sc.isCoroutine && (!sc.isGenerator && (decide N.Nodup && (decide (N.take ps.length = ps) && ((ps.all fun x => isLC (sc.names.lookup x)) && sc.names.all fun y => !(y.2 == .free))))))
theorem scB_ok {N ps : List Str} {sc : Scope} (h : scB N ps sc = true) : FnScope N ps sc := by
  obtain ⟨h1, h⟩ := and2 h
  obtain ⟨h2, h⟩ := and2 h
  obtain ⟨h3, h⟩ := and2 h
  obtain ⟨h4, h⟩ := and2 h
  obtain ⟨h5, h⟩ := and2 h
  obtain ⟨h6, h7⟩ := and2 h
  refine ⟨?_, by simpa using h2, by simpa using h3, of_decide_eq_true h4, of_decide_eq_true h5, fun x hx => ?_, fun y hy e => ?_⟩
  · revert h1
    cases sc.kind <;> intro h1 <;> first | rfl | cases h1
  · have q := List.all_eq_true.mp h6 x hx
    cases e : sc.names.lookup x with
    | none => rw [e] at q; cases q
    | some k =>
      rw [e] at q
      cases k <;> first | exact .inl rfl | exact .inr rfl | cases q
  · have q := List.all_eq_true.mp h7 y hy
    rw [e] at q
    cases q
def ckB (T : Txt) (G : List D) (d : DefS) (F : Fd) : Bool := scB d.N d.ps (defScope d.st) && (decide (F.n = d.N.length) && (decide (F.ps.length = d.ps.length) && okSs T G d.N ⟨defScope d.st, cellsOf (defScope d.st), T.lam.contains d.qual⟩ (freeS F.ps) F.body (defBody d.st)))
theorem chk_of {T : Txt} {P : Pr} {DS : List DefS} (fn : T.fn = DS.map (·.name)) (ln : P.F.length = DS.length) (ck : ((DS.zip P.F).all fun p => ckB T P.G p.1 p.2) = true) (fms : ∀ fm ∈ T.fms, FormOk DS fm) : Chk T P DS := by
  refine ⟨fn, ln, fun f d F hd hF => ?_, fms⟩
  have h := List.all_eq_true.mp ck (d, F) (List.mem_iff_getElem?.mpr ⟨f, List.getElem?_zip_eq_some.mpr ⟨hd, hF⟩⟩)
  obtain ⟨h1, h⟩ := and2 h
  obtain ⟨h2, h⟩ := and2 h
  obtain ⟨h3, h4⟩ := and2 h
  exact ⟨scB_ok h1, of_decide_eq_true h2, of_decide_eq_true h3, h4⟩
/-- a default's value -/
theorem srcDf {ds : List D} {vs : List V} {its : List Value} (h : ds.map immV = vs.map some) (r : Vals vs its) {i : Nat} {d : D} {z : Value} (hd : ds[i]? = some d) (hz : its[i]? = some z) : ∃ v, immV d = some v ∧ RelV v z := by
  have h1 : (ds.map immV)[i]? = (vs.map some)[i]? := by rw [h]
  rw [List.getElem?_map, List.getElem?_map, hd] at h1
  cases q : vs[i]? with
  | none => rw [q] at h1; cases h1
  | some v =>
    rw [q] at h1
    refine ⟨v, Option.some.inj h1, ?_⟩
    have key : ∀ {vs : List V} {its : List Value}, Vals vs its → ∀ {i : Nat}, vs[i]? = some v → its[i]? = some z → RelV v z := fun {vs its} r => by
      induction r with
      | nil => intro i h; simp at h
      | cons a _ ih =>
        intro i h h'
        cases i with
        | zero => simp at h h'; subst h h'; exact a
        | succ i => exact ih (by simpa using h) (by simpa using h')
    exact key r q hz
/-- from the head to the law -/
theorem walk_ofH {l : PySem.W.OpenLaw} {n k : Nat} {q : Program} {loose : List Str} {XP : (Str → Option Value) → Heap → Prop} {YP : World → Heap → Prop} {d : DefRec} {x : Str}
    (hn : l.most = some n) (hz : n ≤ sizeLine) (hd : d.params.defaults = []) (hr : Room k callerA)
    (F : ∀ (w : World) (mg : Str → Option Value) (fa : Addr) (h : Heap), YP w h → h.Ns mainGlobals mg → mg d.name = some (.ref fa) → ∃ (K : PySem.W.Frag) (fd : FuncData) (cs : List (Addr × Addr)) (sp : Sp), K.In h ∧ (∀ p ∈ cs, h.get? p.2 = some tabO ∧ K.lookup p.2 = none ∧ PySem.W.codeHdIn K p.1 p.2 = true) ∧
      (∀ (s : Shared) (u : Value), K.In s.heap → BindsTo s fd ⟨[u], []⟩ [(x, u)]) ∧ (∀ base, K.In base → base.Ns mainGlobals mg → (∀ p ∈ cs, LamX.TabB base mg p.1 p.2) → FnG l.prog w K mg base k fa fd [x] sp) ∧
      ∀ (H : Hp) (a : Addr) (ns : List Int), ns.length ≤ n → (∀ p ∈ cs, H p.2 = some (.tbl #[])) → SqL K H a (ns.map V.int) → sp [.ref a] H (fun v _ => v = .bl true) fun _ _ _ => False) : PySem.W.WalkO q loose XP YP l.row.toRowW d [] (fun f vs => PySem.call f vs) := by
  refine Att.attach_call hn hd fun w s0 s mg mb fa o pm cd doc a vs ns G Y _ _ _ hmg ha hi hl hg => ?_
  obtain ⟨K, fd, cs, sp, kin, ht, bind, hF, hsp⟩ := F w mg fa _ Y G.T.g hmg
  exact law_run kin G.T.g G.T.b G.T.builtins G.T.nolimit hg G.T.bmain ht ha hi (Nat.le_trans hl hz) hr hF (bind _ _ kin) fun H hT hS => hsp H a ns hl hT hS
/-! ### the hook: the modules' dict beside what the module's names reach -/
section
open He
def asY (g : Addr → Option Obj) (n : Nat) : List Addr := sysModules :: asD g n
def obsY (n : Nat) (fa : List Fa) (fn : List DefD) (ts : List Tab) (tf : List Defn) (ex : PySem.W.Frag → Bool) (g : Addr → Option Obj) : AlX := (obsT fa fn ts (frT g (asY g n)), ex (frT g (asY g n)) && tabsB g tf (frT g (asY g n)))
theorem saysY_of {n : Nat} {fa : List Fa} {fn : List DefD} {ts : List Tab} {tf : List Defn} {ex : PySem.W.Frag → Bool} {w : World} {h : Heap} (e : obsY n fa fn ts tf ex h.get? = valX fn ts w) : SaysX fa fn ts tf ex w h (frT h.get? (asY h.get? n)) := by
  have e1 : obsT fa fn ts (frT h.get? (asY h.get? n)) = valT fn ts w := congrArg (fun z : AlX => z.1) e
  have e2 : (ex (frT h.get? (asY h.get? n)) && tabsB h.get? tf (frT h.get? (asY h.get? n))) = true := congrArg (fun z : AlX => z.2) e
  obtain ⟨h1, h2⟩ := and2 e2
  have key : ∀ p ∈ tf, PySem.W.codeHdIn (frT h.get? (asY h.get? n)) (cT (frT h.get? (asY h.get? n)) p).1 (cT (frT h.get? (asY h.get? n)) p).2 = true ∧ ∃ o, h.get? (cT (frT h.get? (asY h.get? n)) p).2 = some o ∧ emptyTab o = true := fun p hp => by
    obtain ⟨h3, h4⟩ := and2 (List.all_eq_true.mp h2 p hp)
    refine ⟨h3, ?_⟩
    cases q : h.get? (cT (frT h.get? (asY h.get? n)) p).2 with
    | none =>
      rw [q] at h4
      cases h4
    | some o =>
      rw [q] at h4
      exact ⟨o, rfl, h4⟩
  exact ⟨e1, h1, fun p hp => (key p hp).1, fun p hp => by
    obtain ⟨_, o, q, z⟩ := key p hp
    exact frT_none q z, fun p hp => by
    obtain ⟨_, o, q, z⟩ := key p hp
    rw [q, emptyTab_eq z]⟩
def hookY (n : Nat) (fa : List Fa) (fn : List DefD) (ts : List Tab) (tf : List Defn) (ex : PySem.W.Frag → Bool) : PySem.W.Hook where
  α := AlX
  obs := fun s => obsY n fa fn ts tf ex s.heap.get?
  val := fun w => valX fn ts w
  says := fun w h => ∃ K : PySem.W.Frag, K.In h ∧ SaysX fa fn ts tf ex w h K
  of := fun _ _ e => ⟨_, frT_in, saysY_of e⟩
  keeps := fun _ _ _ ⟨K, hK, c⟩ k => ⟨K, PySem.W.Frag.In.keeps hK k, ⟨c.t, c.more, c.hd, c.out, fun p hp => k _ _ (c.empty p hp)⟩⟩
theorem obsY_eq {n : Nat} {fa : List Fa} {fn : List DefD} {ts : List Tab} {tf : List Defn} {ex : PySem.W.Frag → Bool} {g : Addr → Option Obj} {s : Shared} (h : ∀ a, g a = s.heap.get? a) : obsY n fa fn ts tf ex g = (hookY n fa fn ts tf ex).obs s := by
  have e : g = s.heap.get? := funext h
  rw [e] <;> rfl
end
/-- all together -/
theorem law_walk {l : PySem.W.OpenLaw} {n k f : Nat} {q : Program} {loose : List Str} {XP : (Str → Option Value) → Heap → Prop} {d : DefRec} {x nm : Str} {T : Txt} {P : Pr} {DS : List DefS} {dl : DefS} {m : Nat} {fa : List He.Fa}
    (hn : l.most = some n) (hz : n ≤ sizeLine) (hd : d.params.defaults = []) (hr : Room (k + 1) callerA) (hdn : d.name = nm) (Ck : Chk T P DS) (ok : dflOk DS = true) (nq : (DS.all fun d => decide (d.name = d.qual)) = true) (hfa : fa = faOf T) (hf : DS[f]? = some dl) (hnm : dl.name = nm) (hps : dl.ps = [x])
    (hfm : (⟨f, 1, [], [.ar 0]⟩ : Fm) ∈ T.fms)
    (hrun : ∀ ns : List Int, ns.length ≤ n → ∃ m o, run P (k + 1) f [.sh (.list (ns.map PyData.int))] = .ok m (.bool true) o) :
    PySem.W.WalkO q loose XP (hookY m fa (DS.map DefS.dd) (dTabs T.gl P.G) (lamD T.lam) (exT T.gl P.G T.lam)).says l.row.toRowW d [] (fun f vs => PySem.call f vs) := by
  refine walk_ofH (x := x) hn hz hd hr (fun w mg fa' h Y G hmg => ?_)
  obtain ⟨K, X, c⟩ := Y
  have S := fun base tb => stat_of Ck ok nq hfa c X G l.prog base tb
  have hfn : T.fn[f]? = some nm := by rw [Ck.fn, List.getElem?_map, hf]; exact congrArg some hnm
  obtain ⟨a, oc, od, dV, kV, doc, pm, an, cdv, ct, osl, hnK, hk, lk, cd, D⟩ := defK_of c.t.d ok (fun d hd => by
    subst hfa
    refine List.mem_append.mpr (.inr (List.mem_map_of_mem ?_))
    rw [Ck.fn]
    exact List.mem_map_of_mem hd) dl (List.mem_of_getElem? hf)
  have ea : mg nm = some (.ref a) := by rw [← hnm]; exact PySem.W.mg_of X G hnK
  rw [hdn, ea] at hmg
  cases hmg
  have hF : f < P.F.length := by rw [Ck.ln]; exact (List.getElem?_eq_some_iff.mp hf).1
  obtain ⟨c1, c2, c3, c4⟩ := Ck.ck f dl _ hf (List.getElem?_eq_getElem hF)
  have hpl : dl.ps.length ≤ dl.N.length := by have := congrArg List.length c1.pre; rw [List.length_take] at this; omega
  letI : TabC := ⟨lamL K T.lam⟩
  have eT : ∀ p ∈ (TabC.T : List (Addr × Str)), ∃ q ∈ lamD T.lam, p.1 = (He.cT K q).2 := fun p hp => by
    obtain ⟨q, hq, rfl⟩ := List.mem_map.mp (show p ∈ lamL K T.lam from hp)
    exact ⟨(q, none), List.mem_map.mpr ⟨q, hq, rfl⟩, rfl⟩
  refine ⟨K, dl.fd dV kV doc pm an cdv ct, (lamD T.lam).map (He.cT K), spF T K P (k + 1) f, X, fun p hp => ?_, fun s u kin => ?_, fun base X' G' tb => ?_, fun H a ns hl tb hS => sp_law hrun H a ns hl (fun p hp => ?_) hS⟩
  · obtain ⟨q, hq, rfl⟩ := List.mem_map.mp hp
    exact ⟨c.empty q hq, c.out q hq, c.hd q hq⟩
  · obtain ⟨zs, b1, b2⟩ := Ck.fms _ hfm dl hf K dV kV doc pm an cdv ct D s [u] [] kin rfl rfl
    have e : zs = [u] := by
      cases zs with
      | nil => exact b2.elim
      | cons z zs =>
        obtain ⟨h1, h2⟩ := (show ([u] : List Value)[0]? = some z ∧ SrcV [] [u] zs from b2)
        cases h1
        cases zs with
        | nil => rfl
        | cons _ _ => exact h2.elim
    rw [e, hps] at b1
    exact b1
  · have tb' : ∀ p ∈ lamD T.lam, LamX.TabB base mg (He.cT K p).1 (He.cT K p).2 := fun p hp => tb _ (List.mem_map_of_mem hp)
    have fc : T.lam.contains dl.qual = true → LamC mg base cdv dl.qual := by
      intro hl
      have hq : dl.qual ∈ T.lam := by simpa using hl
      have en : dl.name = dl.qual := of_decide_eq_true (List.all_eq_true.mp nq dl (List.mem_of_getElem? hf))
      exact lamC_of (fd := dl.fd dV kV doc pm an cdv ct) (of_decide_eq_true (and2 c.more).2) hq (by rw [← en]; exact hnK) lk cd (tb' _ (List.mem_map.mpr ⟨dl.qual, hq, rfl⟩))
    rw [← hps]
    exact fnG_of lk cd c1 (fun vs H Q E h => (spF_len (List.getElem?_eq_getElem hF) h).trans c3) fun A outer s H vs Q E hr hg hsp =>
      ⟨_, body_ok c4 k (fun cls d _ H' => E cls d H') _ rfl rfl rfl rfl rfl ⟨rfl, c1.nd, rfl, rfl, takes_of rfl rfl rfl rfl, hr, hg, facts_all (S base tb') k⟩ (fun _ => rfl) (fun e => let ⟨c, Pt, e1, tb, m, u⟩ := fc e; ⟨c, Pt, e1, tb, m, u⟩) (passes_of rfl), spF_body (List.getElem?_eq_getElem hF) c2 (by omega) hsp⟩
  · obtain ⟨q, hq, e⟩ := eT p hp
    rw [e]
    exact tb _ (List.mem_map_of_mem hq)
end Pv

/-! PvW: weakest preconditions of the interpreter's parts. -/
namespace Pv
open PySem

@[irreducible] def wp {α : Type} (m : M α) (e : En) (Q : α → En → Prop) : Prop := match m e with
  | .ok a e' => Q a e'
  | _ => False
@[irreducible] def wo {α : Type} (o : Option α) (Q : α → Prop) : Prop := match o with
  | some a => Q a
  | none => False
@[irreducible] def wc (r : CR) (Q : Nat → D → En → Prop) : Prop := match r with
  | .ok m d o => Q m d o
  | _ => False
/-- an environment, reckoned first -/
@[irreducible] def we {α : Sort 1} (e : α) (P : α → Prop) : Prop := P e
@[irreducible] def wv (x : AV) (P : D → Prop) : Prop := match x with
  | .val d => P d
  | .own _ => False
@[irreducible] def wb (d : D) (P : Bool → Prop) : Prop := match d with
  | .bool b => P b
  | _ => False
@[irreducible] def wsh (o : Option Sl) (P : D → Prop) : Prop := match o with
  | some (.sh d) => P d
  | _ => False
@[irreducible] def wow (o : Option Sl) (P : Nat → D → Prop) : Prop := match o with
  | some (.ow m d) => P m d
  | _ => False
@[irreducible] def wif (b : Bool) (A B : Prop) : Prop := if b = true then A else B
@[irreducible] def wnx (f : Fl) (A : Prop) (B : Fl → Prop) : Prop := match f with
  | .nx => A
  | f => B f
section
variable {α β : Type} {e : En} {cn : Cn}
theorem wo_some (a : α) (Q : α → Prop) : wo (some a) Q = Q a := by with_unfolding_all rfl
theorem wo_map (o : Option α) (f : α → β) (Q : β → Prop) : wo (o.map f) Q = wo o fun a => Q (f a) := by cases o <;> with_unfolding_all rfl
theorem wo_bind (o : Option α) (f : α → Option β) (Q : β → Prop) : wo (o.bind f) Q = wo o fun a => wo (f a) Q := by cases o <;> with_unfolding_all rfl
theorem wo_ite (c : Prop) [Decidable c] (o : Option α) (Q : α → Prop) : wo (if c then o else none) Q = (c ∧ wo o Q) := by
  by_cases h : c <;> simp [h, wo]
theorem wo_bite (c : Bool) (o : Option α) (Q : α → Prop) : wo (if c = true then o else none) Q = (c = true ∧ wo o Q) := wo_ite _ _ _
theorem we_eq {α : Sort 1} (e : α) (P : α → Prop) : we e P = P e := by with_unfolding_all rfl
theorem wv_val (d : D) (P : D → Prop) : wv (.val d) P = P d := by with_unfolding_all rfl
theorem wb_bool (b : Bool) (P : Bool → Prop) : wb (.bool b) P = P b := by with_unfolding_all rfl
theorem wsh_sh (d : D) (P : D → Prop) : wsh (some (.sh d)) P = P d := by with_unfolding_all rfl
theorem wow_ow (m : Nat) (d : D) (P : Nat → D → Prop) : wow (some (.ow m d)) P = P m d := by with_unfolding_all rfl
theorem wif_t (A B : Prop) : wif true A B = A := by with_unfolding_all rfl
theorem wif_f (A B : Prop) : wif false A B = B := by with_unfolding_all rfl
theorem wif_d (p : Prop) [Decidable p] (A B : Prop) : wif (decide p) A B = ((p → A) ∧ (¬ p → B)) := by
  by_cases h : p <;> simp [wif, h]
theorem wif_n (b : Bool) (A B : Prop) : wif (!b) A B = wif b B A := by cases b <;> with_unfolding_all rfl
theorem wif_and (b c : Bool) (A B : Prop) : wif (b && c) A B = wif b (wif c A B) B := by cases b <;> cases c <;> with_unfolding_all rfl
theorem wif_or (b c : Bool) (A B : Prop) : wif (b || c) A B = wif b A (wif c A B) := by cases b <;> cases c <;> with_unfolding_all rfl
theorem wif_b (b : Bool) (A B : Prop) : wif b A B = ((b = true → A) ∧ (b = false → B)) := by cases b <;> simp [wif]
theorem wnx_nx (A : Prop) (B : Fl → Prop) : wnx .nx A B = A := by with_unfolding_all rfl
theorem wnx_rt (m : Nat) (d : D) (A : Prop) (B : Fl → Prop) : wnx (.rt m d) A B = B (.rt m d) := by with_unfolding_all rfl
theorem wnx_bk (A : Prop) (B : Fl → Prop) : wnx .bk A B = B .bk := by with_unfolding_all rfl
theorem wnx_ct (A : Prop) (B : Fl → Prop) : wnx .ct A B = B .ct := by with_unfolding_all rfl
/-! the monad -/
theorem wp_bind (m : M α) (k : α → M β) (Q : β → En → Prop) : wp (m >>= k) e Q = wp m e fun a e' => wp (k a) e' Q := by
  unfold wp
  show (match (m e).bind k with | .ok a e' => Q a e' | _ => False) = _
  cases m e <;> with_unfolding_all rfl
theorem wp_ret (a : α) (Q : α → En → Prop) : wp (M.ret a) e Q = Q a e := by with_unfolding_all rfl
theorem wp_ofO (o : Option α) (Q : α → En → Prop) : wp (ofO o) e Q = wo o fun a => Q a e := by cases o <;> with_unfolding_all rfl
theorem wp_rdS (i : Nat) (Q : D → En → Prop) : wp (rdS i) e Q = wsh e[i]? fun d => Q d e := by
  unfold wp rdS
  cases e[i]? with
  | none => with_unfolding_all rfl
  | some s => cases s <;> with_unfolding_all rfl
theorem wp_rdO (i : Nat) (Q : Nat × D → En → Prop) : wp (rdO i) e Q = wow e[i]? fun m d => Q (m, d) e := by
  unfold wp rdO
  cases e[i]? with
  | none => with_unfolding_all rfl
  | some s => cases s <;> with_unfolding_all rfl
theorem wp_wr (i : Nat) (s : Sl) (Q : Unit → En → Prop) : wp (wr i s) e Q = we (e.set i s) fun e' => Q () e' := by with_unfolding_all rfl
theorem wp_valM (x : AV) (Q : D → En → Prop) : wp (valM x) e Q = wv x fun d => Q d e := by cases x <;> with_unfolding_all rfl
theorem wp_boolM (d : D) (Q : Bool → En → Prop) : wp (boolM d) e Q = wb d fun b => Q b e := by cases d <;> with_unfolding_all rfl
theorem wp_bad (Q : α → En → Prop) : wp (fun _ => R.bad : M α) e Q = False := by with_unfolding_all rfl
/-! operations on arguments -/
@[irreducible] def woA (e : En) (as : List AV) (fresh : Bool) (f : List D → Option D) (P : D → Prop) : Prop := wp (opM as fresh f) e fun d _ => P d
theorem wp_opM (as : List AV) (fr : Bool) (f : List D → Option D) (Q : D → En → Prop) : wp (opM as fr f) e Q = woA e as fr f fun d => Q d e := by
  unfold woA wp opM
  cases resAll e as with
  | none => with_unfolding_all rfl
  | some ds =>
    simp only
    cases f ds with
    | none => with_unfolding_all rfl
    | some d =>
      simp only
      by_cases h : (!as.any isOwn || immut d || fr && !as.any (isOwn2 e)) = true
      · simp only [h, if_true]
      · rw [if_neg h]
theorem woA_1 (a : D) (fr : Bool) (g : D → Option D) (P : D → Prop) : woA e [.val a] fr (f1 g) P = wo (g a) P := by
  unfold woA wp opM
  simp only [resAll, resE, f1]
  cases g a <;> simp [wo, isOwn]
theorem woA_2 (a b : D) (fr : Bool) (g : D → D → Option D) (P : D → Prop) : woA e [.val a, .val b] fr (f2 g) P = wo (g a b) P := by
  unfold woA wp opM
  simp only [resAll, resE, f2]
  cases g a b <;> simp [wo, isOwn]
/-- an answer that shares nothing with the own container it comes of -/
def frOk (fr : Bool) (m : Nat) (d : D) : Bool := immut d || (fr && m == 1)
theorem woA_o1 (i : Nat) (fr : Bool) (g : D → Option D) (P : D → Prop) : woA e [.own i] fr (f1 g) P = wow e[i]? fun m a => wo (g a) fun d => frOk fr m d = true ∧ P d := by
  unfold woA wp opM
  simp only [resAll, resE]
  cases h : e[i]? with
  | none => with_unfolding_all rfl
  | some s =>
    cases s with
    | ow m a =>
      simp only [f1, wow]
      cases g a with
      | none => with_unfolding_all rfl
      | some d =>
        simp only [wo, List.any_cons, List.any_nil, Bool.or_false, isOwn, Bool.not_true, Bool.false_or, isOwn2, h, frOk]
        have e1 : (!(m != 1)) = (m == 1) := by cases q : (m == 1) <;> simp [bne, q]
        simp only [e1]
        cases (immut d || fr && (m == 1)) <;> simp
    | no => with_unfolding_all rfl
    | sh _ => with_unfolding_all rfl
theorem woA_o2 (i : Nat) (b : D) (fr : Bool) (g : D → D → Option D) (P : D → Prop) : woA e [.own i, .val b] fr (f2 g) P = wow e[i]? fun m a => wo (g a b) fun d => frOk fr m d = true ∧ P d := by
  unfold woA wp opM
  simp only [resAll, resE]
  cases h : e[i]? with
  | none => with_unfolding_all rfl
  | some s =>
    cases s with
    | ow m a =>
      simp only [f2, wow]
      cases g a b with
      | none => with_unfolding_all rfl
      | some d =>
        simp only [wo, List.any_cons, List.any_nil, Bool.or_false, isOwn, Bool.not_true, Bool.false_or, isOwn2, h, frOk]
        have e1 : (!(m != 1)) = (m == 1) := by cases q : (m == 1) <;> simp [bne, q]
        simp only [e1]
        cases (immut d || fr && (m == 1)) <;> simp
    | no => with_unfolding_all rfl
    | sh _ => with_unfolding_all rfl
theorem woA_2o (i : Nat) (b : D) (fr : Bool) (g : D → D → Option D) (P : D → Prop) : woA e [.val b, .own i] fr (f2 g) P = wow e[i]? fun m a => wo (g b a) fun d => frOk fr m d = true ∧ P d := by
  unfold woA wp opM
  simp only [resAll, resE]
  cases h : e[i]? with
  | none => with_unfolding_all rfl
  | some s =>
    cases s with
    | ow m a =>
      simp only [f2, wow]
      cases g b a with
      | none => with_unfolding_all rfl
      | some d =>
        simp only [wo, List.any_cons, List.any_nil, Bool.or_false, isOwn, Bool.not_true, Bool.false_or, isOwn2, h, frOk]
        have e1 : (!(m != 1)) = (m == 1) := by cases q : (m == 1) <;> simp [bne, q]
        simp only [e1]
        cases (immut d || fr && (m == 1)) <;> simp
    | no => with_unfolding_all rfl
    | sh _ => with_unfolding_all rfl
/-- built-ins take their arguments as a list -/
theorem woA_b1 (a : D) (fr : Bool) (f : List D → Option D) (P : D → Prop) : woA e [.val a] fr f P = wo (f [a]) P := by
  unfold woA wp opM
  simp only [resAll, resE]
  cases f [a] <;> simp [wo, isOwn]
theorem woA_b2 (a b : D) (fr : Bool) (f : List D → Option D) (P : D → Prop) : woA e [.val a, .val b] fr f P = wo (f [a, b]) P := by
  unfold woA wp opM
  simp only [resAll, resE]
  cases f [a, b] <;> simp [wo, isOwn]
theorem woA_bo (i : Nat) (fr : Bool) (f : List D → Option D) (P : D → Prop) : woA e [.own i] fr f P = wow e[i]? fun m a => wo (f [a]) fun d => frOk fr m d = true ∧ P d := by
  have h := woA_o1 (e := e) i fr (fun a => f [a]) P
  rw [← h]
  unfold woA opM wp
  simp only [resAll, resE]
  cases q : e[i]? with
  | none => with_unfolding_all rfl
  | some s => cases s <;> with_unfolding_all rfl
/-! expressions -/
theorem wp_v1 (m : M D) (Q : AV → En → Prop) : wp (v1 m) e Q = wp m e fun d e' => Q (.val d) e' := by unfold v1; rw [wp_bind]; with_unfolding_all rfl
theorem wp_lit (d : D) (Q : AV → En → Prop) : wp (ev cn (.lit d)) e Q = Q (.val d) e := by with_unfolding_all rfl
theorem wp_var (i : Nat) (Q : AV → En → Prop) : wp (ev cn (.var i)) e Q = wsh e[i]? fun d => Q (.val d) e := by rw [ev, wp_v1, wp_rdS]
theorem wp_own (i : Nat) (Q : AV → En → Prop) : wp (ev cn (.own i)) e Q = wow e[i]? fun _ _ => Q (.own i) e := by rw [ev, wp_bind, wp_rdO]; with_unfolding_all rfl
theorem wp_frz (i : Nat) (Q : AV → En → Prop) : wp (ev cn (.frz i)) e Q = wow e[i]? fun _ d => we (e.set i (.sh d)) fun e' => Q (.val d) e' := by rw [ev, wp_bind, wp_rdO]; with_unfolding_all rfl
theorem wp_glb (g : Nat) (Q : AV → En → Prop) : wp (ev cn (.glb g)) e Q = wo cn.G[g]? fun d => Q (.val d) e := by rw [ev, wp_v1, wp_ofO]
theorem wp_kidx (g : Nat) (a : Ex) (Q : AV → En → Prop) : wp (ev cn (.kidx g a)) e Q = wp (ev cn a) e fun x e1 => wv x fun d => wo (kidxD cn.G[g]? d) fun r => Q (.val r) e1 := by
  rw [ev]; simp only [wp_bind, wp_valM, wp_v1, wp_ofO]
theorem wp_kin (n : Bool) (g : Nat) (a : Ex) (Q : AV → En → Prop) : wp (ev cn (.kin n g a)) e Q = wp (ev cn a) e fun x e1 => wv x fun d => wo (kinD cn.G[g]? d n) fun r => Q (.val r) e1 := by
  rw [ev]; simp only [wp_bind, wp_valM, wp_v1, wp_ofO]
theorem wp_bin (op : Operator) (a b : Ex) (Q : AV → En → Prop) : wp (ev cn (.bin op a b)) e Q = wp (ev cn a) e fun x e1 => wp (ev cn b) e1 fun y e2 => woA e2 [x, y] (op == .Add) (f2 (binD op)) fun d => Q (.val d) e2 := by
  rw [ev]; simp only [wp_bind, wp_v1, wp_opM]
theorem wp_neg (a : Ex) (Q : AV → En → Prop) : wp (ev cn (.neg a)) e Q = wp (ev cn a) e fun x e1 => woA e1 [x] false (f1 negD) fun d => Q (.val d) e1 := by
  rw [ev]; simp only [wp_bind, wp_v1, wp_opM]
theorem wp_tst (m : M AV) (Q : Bool → En → Prop) : wp (tstM m) e Q = wp m e fun x e1 => wv x fun d => wb d fun b => Q b e1 := by
  unfold tstM; simp only [wp_bind, wp_valM, wp_boolM]
theorem wp_boolV (m : M Bool) (Q : AV → En → Prop) : wp (boolV m) e Q = wp m e fun b e1 => Q (.val (.bool b)) e1 := by
  unfold boolV; simp only [wp_bind, wp_ret]
theorem wp_not (a : Ex) (Q : AV → En → Prop) : wp (ev cn (.not_ a)) e Q = wp (tstM (ev cn a)) e fun b e1 => Q (.val (.bool (!b))) e1 := by
  rw [ev]; simp only [wp_bind, wp_ret]
theorem wp_bo (op : BoolOp) (as : Exs) (Q : AV → En → Prop) : wp (ev cn (.bo op as)) e Q = wp (evB cn op as) e fun b e1 => Q (.val (.bool b)) e1 := by
  rw [ev, wp_boolV]
theorem wp_and_nil (Q : Bool → En → Prop) : wp (evB cn .And .nil) e Q = Q true e := by rw [evB]; with_unfolding_all rfl
theorem wp_or_nil (Q : Bool → En → Prop) : wp (evB cn .Or .nil) e Q = Q false e := by rw [evB]; with_unfolding_all rfl
theorem wo_f1 (g : D → Option D) (p : D) (P : D → Prop) : wo (f1 g [p]) P = wo (g p) P := by with_unfolding_all rfl
theorem wo_f2 (g : D → D → Option D) (p q : D) (P : D → Prop) : wo (f2 g [p, q]) P = wo (g p q) P := by with_unfolding_all rfl
theorem wp_and_c (a : Ex) (as : Exs) (Q : Bool → En → Prop) : wp (evB cn .And (.cons a as)) e Q = wp (tstM (ev cn a)) e fun b e1 => wif b (wp (evB cn .And as) e1 Q) (Q false e1) := by
  rw [evB]; simp only [wp_bind]; congr 1; funext b e1; cases b <;> with_unfolding_all rfl
theorem wp_or_c (a : Ex) (as : Exs) (Q : Bool → En → Prop) : wp (evB cn .Or (.cons a as)) e Q = wp (tstM (ev cn a)) e fun b e1 => wif b (Q true e1) (wp (evB cn .Or as) e1 Q) := by
  rw [evB]; simp only [wp_bind]; congr 1; funext b e1; cases b <;> with_unfolding_all rfl
theorem wp_and_1 (a : Ex) (Q : Bool → En → Prop) : wp (evB cn .And (.cons a .nil)) e Q = wp (tstM (ev cn a)) e Q := by
  rw [wp_and_c]; congr 1; funext b e1; rw [wp_and_nil]; cases b <;> with_unfolding_all rfl
theorem wp_or_1 (a : Ex) (Q : Bool → En → Prop) : wp (evB cn .Or (.cons a .nil)) e Q = wp (tstM (ev cn a)) e Q := by
  rw [wp_or_c]; congr 1; funext b e1; rw [wp_or_nil]; cases b <;> with_unfolding_all rfl
theorem wp_and_cons (a b : Ex) (as : Exs) (Q : Bool → En → Prop) : wp (evB cn .And (.cons a (.cons b as))) e Q = wp (tstM (ev cn a)) e fun r e1 => wif r (wp (evB cn .And (.cons b as)) e1 Q) (Q false e1) := wp_and_c _ _ _
theorem wp_or_cons (a b : Ex) (as : Exs) (Q : Bool → En → Prop) : wp (evB cn .Or (.cons a (.cons b as))) e Q = wp (tstM (ev cn a)) e fun r e1 => wif r (Q true e1) (wp (evB cn .Or (.cons b as)) e1 Q) := wp_or_c _ _ _
/-- a comparison of data -/
@[irreducible] def wcm (op : CmpOp) (a b : D) (P : Bool → Prop) : Prop := wo (cmpOpD op a b) P
theorem wo_cmpF (op : CmpOp) (a b : D) (P : D → Prop) : wo (cmpF op a b) P = wcm op a b fun r => P (.bool r) := by
  unfold cmpF wcm; rw [wo_map]
theorem wp_cmp (op : CmpOp) (a b : Ex) (Q : AV → En → Prop) : wp (ev cn (.cmp op a b)) e Q = wp (ev cn a) e fun x e1 => wp (ev cn b) e1 fun y e2 => woA e2 [x, y] false (f2 (cmpF op)) fun d => wb d fun r => Q (.val (.bool r)) e2 := by
  rw [ev, wp_boolV]; unfold cmpM; simp only [wp_bind, wp_opM, wp_boolM]
theorem wp_cmp2 (op op' : CmpOp) (a b c : Ex) (Q : AV → En → Prop) : wp (ev cn (.cmp2 op op' a b c)) e Q = wp (ev cn a) e fun x e1 => wv x fun p => wp (ev cn b) e1 fun y e2 => wv y fun q => wcm op p q fun r => wif r (wp (ev cn c) e2 fun z e3 => wv z fun w => wcm op' q w fun r' => Q (.val (.bool r')) e3) (Q (.val (.bool false)) e2) := by
  rw [ev, wp_boolV]; unfold cmp2M; simp only [wp_bind, wp_valM, wp_ofO, wcm]
  congr 1; funext x e1; congr 1; funext p; congr 1; funext y e2; congr 1; funext q; congr 1; funext r
  cases r
  · with_unfolding_all rfl
  · rw [wif_t]
    show wp (ev cn c >>= fun z => valM z >>= fun w => ofO (cmpOpD op' q w)) e2 _ = _
    simp only [wp_bind, wp_valM, wp_ofO]
theorem wp_ife (c a b : Ex) (Q : AV → En → Prop) : wp (ev cn (.ife c a b)) e Q = wp (tstM (ev cn c)) e fun t e1 => wif t (wp (ev cn a) e1 Q) (wp (ev cn b) e1 Q) := by
  rw [ev]; simp only [wp_bind]; congr 1; funext t e1; cases t <;> with_unfolding_all rfl
/-- all items -/
@[irreducible] def wvs (xs : List AV) (P : List D → Prop) : Prop := wp (valsM xs) [] fun ds _ => P ds
theorem wvs_nil (P : List D → Prop) : wvs [] P = P [] := by with_unfolding_all rfl
theorem valsM_env : ∀ (xs : List AV) (e : En) (Q : List D → En → Prop), wp (valsM xs) e Q = wvs xs fun ds => Q ds e
  | [], e, Q => by with_unfolding_all rfl
  | .own i :: xs, e, Q => by unfold wvs; rw [valsM]; simp only [wp_bind, wp_valM]; with_unfolding_all rfl
  | .val d :: xs, e, Q => by
    rw [valsM]
    simp only [wp_bind, wp_valM, wv_val, wp_ret]
    rw [valsM_env xs e]
    unfold wvs
    rw [valsM]
    simp only [wp_bind, wp_valM, wv_val, wp_ret]
theorem wvs_cons (d : D) (xs : List AV) (P : List D → Prop) : wvs (.val d :: xs) P = wvs xs fun ds => P (d :: ds) := by
  unfold wvs; rw [valsM]; simp only [wp_bind, wp_valM, wv_val, wp_ret]
theorem wp_disp (m : M (List AV)) (k : List D → D) (Q : AV → En → Prop) : wp (dispM m k) e Q = wp m e fun xs e1 => wvs xs fun ds => we ds.length fun n => n ≤ sline ∧ Q (.val (k ds)) e1 := by
  unfold dispM; simp only [wp_bind, valsM_env, wp_ofO, wo_ite, wp_ret, wo_some]; with_unfolding_all rfl
theorem wp_tup (as : Exs) (Q : AV → En → Prop) : wp (ev cn (.tup as)) e Q = wp (evs cn as) e fun xs e1 => wvs xs fun ds => we ds.length fun n => n ≤ sline ∧ Q (.val (.tuple ds)) e1 := by
  rw [ev, wp_disp]
theorem wp_lst (as : Exs) (Q : AV → En → Prop) : wp (ev cn (.lst as)) e Q = wp (evs cn as) e fun xs e1 => wvs xs fun ds => we ds.length fun n => n ≤ sline ∧ Q (.val (.list ds)) e1 := by
  rw [ev, wp_disp]
theorem wp_evs_nil (Q : List AV → En → Prop) : wp (evs cn .nil) e Q = Q [] e := by rw [evs]; with_unfolding_all rfl
theorem wp_evs_cons (a : Ex) (as : Exs) (Q : List AV → En → Prop) : wp (evs cn (.cons a as)) e Q = wp (ev cn a) e fun x e1 => wp (evs cn as) e1 fun xs e2 => Q (x :: xs) e2 := by
  rw [evs]; simp only [wp_bind, wp_ret]
theorem wp_idx (a b : Ex) (Q : AV → En → Prop) : wp (ev cn (.idx a b)) e Q = wp (ev cn a) e fun x e1 => wp (ev cn b) e1 fun y e2 => woA e2 [x, y] true (f2 idxD) fun d => Q (.val d) e2 := by
  rw [ev]; simp only [wp_bind, wp_v1, wp_opM]
theorem wp_oe_no (Q : Option Int → En → Prop) : wp (evO cn .no) e Q = Q none e := by rw [evO]; with_unfolding_all rfl
@[irreducible] def wint (d : D) (P : Int → Prop) : Prop := match d with
  | .int i => P i
  | _ => False
theorem wint_int (i : Int) (P : Int → Prop) : wint (.int i) P = P i := by with_unfolding_all rfl
theorem wp_intM (d : D) (Q : Int → En → Prop) : wp (intM d) e Q = wint d fun i => Q i e := by cases d <;> with_unfolding_all rfl
theorem wp_oe_so (a : Ex) (Q : Option Int → En → Prop) : wp (evO cn (.so a)) e Q = wp (ev cn a) e fun x e1 => wv x fun d => wint d fun i => Q (some i) e1 := by
  rw [evO]; simp only [wp_bind, wp_valM, wp_intM, wp_ret]
theorem wp_slc (a : Ex) (lo hi : Oe) (Q : AV → En → Prop) : wp (ev cn (.slc a lo hi)) e Q = wp (ev cn a) e fun x e1 => wp (evO cn lo) e1 fun l e2 => wp (evO cn hi) e2 fun h e3 => woA e3 [x] true (f1 fun p => slcD p l h) fun d => Q (.val d) e3 := by
  rw [ev]; simp only [wp_bind, wp_v1, wp_opM]
theorem wp_rev (a : Ex) (Q : AV → En → Prop) : wp (ev cn (.rev a)) e Q = wp (ev cn a) e fun x e1 => woA e1 [x] true (f1 revD) fun d => Q (.val d) e1 := by
  rw [ev]; simp only [wp_bind, wp_v1, wp_opM]
theorem wp_by2 (a : Ex) (Q : AV → En → Prop) : wp (ev cn (.by2 a)) e Q = wp (ev cn a) e fun x e1 => woA e1 [x] true (f1 by2D) fun d => Q (.val d) e1 := by
  rw [ev]; simp only [wp_bind, wp_v1, wp_opM]
theorem wp_bi (f : Bf) (as : Exs) (Q : AV → En → Prop) : wp (ev cn (.bi f as)) e Q = wp (evs cn as) e fun xs e1 => woA e1 xs (rootBi f) (biD f) fun d => Q (.val d) e1 := by
  rw [ev]; simp only [wp_bind, wp_v1, wp_opM]
theorem wp_me (m : Me) (a : Ex) (as : Exs) (Q : AV → En → Prop) : wp (ev cn (.me m a as)) e Q = wp (ev cn a) e fun x e1 => wv x fun d => meT m d = true ∧ wp (evs cn as) e1 fun xs e2 => woA e2 xs false (meD m d) fun r => Q (.val r) e2 := by
  rw [ev]; simp only [wp_bind, wp_valM, wp_ofO, wo_bite, wp_v1, wp_opM, wo_some]
@[irreducible] def wcall (cn : Cn) (f : Nat) (as : List AV) (src : List Sr) (e : En) (P : Nat → D → En → Prop) : Prop :=
  ((ownSl as src).filterMap id).Nodup ∧ wo (fillS e as src) fun ea => wc (cn.C f ea) fun m d o => we (backS (ownSl as src) o e) fun e' => P m d e'
theorem wp_callM (f : Nat) (as : List AV) (src : List Sr) (Q : Nat × D → En → Prop) : wp (callM cn f as src) e Q = wcall cn f as src e fun m d e' => Q (m, d) e' := by
  unfold wp callM wcall
  by_cases h : ((ownSl as src).filterMap id).Nodup
  · simp only [h, if_true, true_and]
    cases fillS e as src with
    | none => with_unfolding_all rfl
    | some ea =>
      simp only [wo]
      cases cn.C f ea <;> with_unfolding_all rfl
  · simp only [h, if_false, false_and]
theorem wp_call (f n : Nat) (as ks : Exs) (src : List Sr) (Q : AV → En → Prop) : wp (ev cn (.call f n as ks src)) e Q = wp (evs cn as) e fun xs e1 => wp (evs cn ks) e1 fun ys e2 => we (xs ++ ys) fun zs => wcall cn f zs src e2 fun _ d e' => Q (.val d) e' := by
  rw [ev]; simp only [wp_bind, wp_callM, wp_ret]; with_unfolding_all rfl
theorem wp_comp (ow : List Nat) (it : It) (tg : Tg) (cs : Exs) (el : Ex) (Q : AV → En → Prop) : wp (ev cn (.comp ow it tg cs el)) e Q = wp (evI cn it) e fun items e1 => wp (compM ow items tg (evB cn .And cs) (ev cn el)) e1 fun d e2 => Q (.val d) e2 := by
  rw [ev]; simp only [wp_bind, wp_v1]
theorem wp_popV (i : Nat) (mk : M (Option Int)) (Q : AV → En → Prop) : wp (popV i mk) e Q = wow e[i]? fun m d => match d with
    | .list _ => wp mk e fun k e1 => wp (popM i k) e1 fun d e2 => Q (.val d) e2
    | _ => False := by
  unfold popV
  simp only [wp_bind, wp_ret]
  show wp (fun e => match e[i]? with | some (.ow _ (.list _)) => .ok () e | _ => .bad : M Unit) e _ = _
  unfold wp
  simp only
  cases e[i]? with
  | none => with_unfolding_all rfl
  | some s =>
    cases s with
    | ow m d => cases d <;> with_unfolding_all rfl
    | _ => with_unfolding_all rfl
theorem wp_popE (i : Nat) (a : Oe) (Q : AV → En → Prop) : wp (ev cn (.pop i a)) e Q = wp (popV i (evO cn a)) e Q := by rw [ev]
theorem wp_pop_at (i : Nat) (z : Int) (xs : List D) (h : e[i]? = some (.ow 1 (.list xs))) (hl : xs.length ≤ sline) (h0 : 0 ≤ z) (h1 : z < xs.length) {Q : D → En → Prop} (hQ : ∀ d, xs[z.toNat]? = some d → Q d (e.set i (.ow 1 (.list (xs.eraseIdx z.toNat))))) : wp (popM i (some z)) e Q := by
  have hz : z.toNat < xs.length := by omega
  have e1 : rdO i e = .ok (1, .list xs) e := by unfold rdO; rw [h]
  have e2 : ixN xs.length z = some z.toNat := by
    show L2.ixN xs.length z = _
    unfold L2.ixN
    rw [if_pos h0, if_pos h1]
  have e3 : popM i (some z) e = .ok xs[z.toNat] (e.set i (.ow 1 (.list (xs.eraseIdx z.toNat)))) := by
    show ((rdO i e).bind _) = _
    rw [e1]
    show ((ofO (if xs.length ≤ sline then some xs else none) e).bind _) = _
    rw [if_pos hl]
    show ((ofO (ixN xs.length z) e).bind _) = _
    rw [e2]
    show ((ofO xs[z.toNat]? e).bind _) = _
    rw [List.getElem?_eq_getElem hz]
    rfl
  unfold wp
  rw [e3]
  exact hQ _ (List.getElem?_eq_getElem hz)
theorem wp_pop_last (i : Nat) (xs : List D) (d : D) (h : e[i]? = some (.ow 1 (.list (xs ++ [d])))) (hl : xs.length < sline) {Q : D → En → Prop} (hQ : Q d (e.set i (.ow 1 (.list xs)))) : wp (popM i none) e Q := by
  have e1 : rdO i e = .ok (1, .list (xs ++ [d])) e := by unfold rdO; rw [h]
  have l1 : (xs ++ [d]).length = xs.length + 1 := by simp
  have e3 : popM i none e = .ok d (e.set i (.ow 1 (.list xs))) := by
    show ((rdO i e).bind _) = _
    rw [e1]
    show ((ofO (if (xs ++ [d]).length ≤ sline then some (xs ++ [d]) else none) e).bind _) = _
    rw [if_pos (by omega)]
    show ((ofO (if (xs ++ [d]).length = 0 then none else some ((xs ++ [d]).length - 1)) e).bind _) = _
    rw [if_neg (by omega), l1]
    show ((ofO (xs ++ [d])[xs.length + 1 - 1]? e).bind _) = _
    rw [Nat.add_sub_cancel, List.getElem?_append_right (Nat.le_refl _), Nat.sub_self]
    show R.ok d (e.set i (.ow 1 (.list ((xs ++ [d]).eraseIdx xs.length)))) = _
    rw [List.eraseIdx_append_of_length_le (Nat.le_refl _), Nat.sub_self]
    simp
  unfold wp
  rw [e3]
  exact hQ
theorem wp_ebad (Q : AV → En → Prop) : wp (ev cn .bad) e Q = False := by with_unfolding_all rfl
/-- a dict now -/
@[irreducible] def wdc (e : En) (x : AV) (A : Prop) : Prop := wp (dctM x) e fun _ _ => A
theorem wp_dctM (x : AV) (Q : Unit → En → Prop) : wp (dctM x) e Q = wdc e x (Q () e) := by
  unfold wdc wp dctM
  cases resE e x with
  | none => with_unfolding_all rfl
  | some d => cases d <;> with_unfolding_all rfl
theorem wdc_v (kvs : List (D × D)) (A : Prop) : wdc e (.val (.dict kvs)) A = A := by with_unfolding_all rfl
theorem wdc_o (i : Nat) (A : Prop) : wdc e (.own i) A = wow e[i]? fun m d => match d with | .dict _ => A | _ => False := by
  unfold wdc wp dctM
  simp only [resE]
  cases e[i]? with
  | none => with_unfolding_all rfl
  | some s =>
    cases s with
    | ow m d => cases d <;> with_unfolding_all rfl
    | _ => with_unfolding_all rfl
theorem wp_dget (a k : Ex) (Q : AV → En → Prop) : wp (ev cn (.dget a k)) e Q = wp (ev cn a) e fun x e1 => wdc e1 x (wp (ev cn k) e1 fun y e2 => woA e2 [x, y] true (f2 dget1D) fun d => Q (.val d) e2) := by
  rw [ev]; simp only [wp_bind, wp_v1, wp_opM, wp_dctM]
theorem wp_dget2 (a k z : Ex) (Q : AV → En → Prop) : wp (ev cn (.dget2 a k z)) e Q = wp (ev cn a) e fun x e1 => wdc e1 x (wp (ev cn k) e1 fun y e2 => wp (ev cn z) e2 fun u e3 => woA e3 [x, y, u] false (f3 dget2D) fun d => Q (.val d) e3) := by
  rw [ev]; simp only [wp_bind, wp_v1, wp_opM, wp_dctM]
theorem woA_3 (a b c : D) (fr : Bool) (g : D → D → D → Option D) (P : D → Prop) : woA e [.val a, .val b, .val c] fr (f3 g) P = wo (g a b c) P := by
  unfold woA wp opM
  simp only [resAll, resE, f3]
  cases g a b c <;> simp [wo, isOwn]
theorem woA_o3 (i : Nat) (b c : D) (fr : Bool) (g : D → D → D → Option D) (P : D → Prop) : woA e [.own i, .val b, .val c] fr (f3 g) P = wow e[i]? fun m a => wo (g a b c) fun d => frOk fr m d = true ∧ P d := by
  unfold woA wp opM
  simp only [resAll, resE]
  cases h : e[i]? with
  | none => with_unfolding_all rfl
  | some s =>
    cases s with
    | ow m a =>
      simp only [f3, wow]
      cases g a b c with
      | none => with_unfolding_all rfl
      | some d =>
        simp only [wo, List.any_cons, List.any_nil, Bool.or_false, isOwn, Bool.not_true, Bool.false_or, isOwn2, h, frOk]
        have e1 : (!(m != 1)) = (m == 1) := by cases q : (m == 1) <;> simp [bne, q]
        simp only [e1]
        cases (immut d || fr && (m == 1)) <;> simp
    | no => with_unfolding_all rfl
    | sh _ => with_unfolding_all rfl
theorem woA_b3 (a b c : D) (fr : Bool) (f : List D → Option D) (P : D → Prop) : woA e [.val a, .val b, .val c] fr f P = wo (f [a, b, c]) P := by
  unfold woA wp opM
  simp only [resAll, resE]
  cases f [a, b, c] <;> simp [wo, isOwn]
theorem wp_dct (as : Exs) (Q : AV → En → Prop) : wp (ev cn (.dct as)) e Q = wp (evs cn as) e fun xs e1 => wvs xs fun ds => wo (dctD ds) fun d => Q (.val d) e1 := by
  rw [ev]; simp only [wp_bind, valsM_env, wp_v1, wp_ofO]
/-- an own list, walked -/
@[irreducible] def wol (o : Option Sl) (P : List D → Prop) : Prop := match o with
  | some (.ow 1 (.list ds)) => P ds
  | _ => False
theorem wol_ow (ds : List D) (P : List D → Prop) : wol (some (.ow 1 (.list ds))) P = P ds := by with_unfolding_all rfl
theorem wp_compO (i : Nat) (ow : List Nat) (tg : Tg) (cs : Exs) (el : Ex) (Q : AV → En → Prop) : wp (ev cn (.compO i ow tg cs el)) e Q = wol e[i]? fun ds => we (e.set i .no) fun e1 => wp (compM ow ds tg (evB cn .And cs) (ev cn el)) e1 fun d e2 => we (e2.set i (.ow 1 (.list ds))) fun e3 => Q (.val d) e3 := by
  rw [ev, wp_v1]
  by_cases hd : ∃ ds, e[i]? = some (.ow 1 (.list ds))
  · obtain ⟨ds, h⟩ := hd
    rw [h, wol_ow, we_eq]
    unfold compOM wp
    simp only [h]
    cases compM ow ds tg (evB cn .And cs) (ev cn el) (e.set i .no) with
    | ok d e' => simp only [we_eq]
    | ex x e' => simp only
    | bad => simp only
  · have e1 : compOM i ow tg (evB cn .And cs) (ev cn el) e = .bad := by
      unfold compOM
      split
      · rename_i ds h
        exact absurd ⟨ds, h⟩ hd
      · rfl
    have e2 : ∀ P : List D → Prop, wol e[i]? P = False := fun P => by
      unfold wol
      split
      · rename_i ds h
        exact absurd ⟨ds, h⟩ hd
      · rfl
    rw [e2]
    unfold wp
    rw [e1]
/-! walks -/
theorem wp_it_zipS (a b : Ex) (Q : List D → En → Prop) : wp (evI cn (.zipS a b)) e Q = wp (ev cn a) e fun x e1 => wv x fun d => wp (ev cn b) e1 fun y e2 => wv y fun d' => wo (zipKS d d') fun l => Q l e2 := by
  rw [evI]; simp only [wp_bind, wp_valM, wp_ofO]
theorem wp_it_seq (a : Ex) (Q : List D → En → Prop) : wp (evI cn (.seq a)) e Q = wp (ev cn a) e fun x e1 => wv x fun d => wo (seqL d) fun l => Q l e1 := by
  rw [evI]; simp only [wp_bind, wp_valM, wp_ofO]
@[irreducible] def wrng (i j : Int) (P : List D → Prop) : Prop := wo (rangeL i j) P
theorem wp_it_rng1 (a : Ex) (Q : List D → En → Prop) : wp (evI cn (.rng1 a)) e Q = wp (ev cn a) e fun x e1 => wv x fun d => wint d fun j => wrng 0 j fun l => Q l e1 := by
  rw [evI]; simp only [wp_bind, wp_valM, wp_ofO]
  congr 1; funext x e1; congr 1; funext d; cases d <;> with_unfolding_all rfl
theorem wp_it_rng2 (a b : Ex) (Q : List D → En → Prop) : wp (evI cn (.rng2 a b)) e Q = wp (ev cn a) e fun x e1 => wv x fun d => wp (ev cn b) e1 fun y e2 => wv y fun d' => wint d fun i => wint d' fun j => wrng i j fun l => Q l e2 := by
  rw [evI]; simp only [wp_bind, wp_valM, wp_ofO]
  congr 1; funext x e1; congr 1; funext d; congr 1; funext y e2; congr 1; funext d'; cases d <;> cases d' <;> with_unfolding_all rfl
theorem wp_it_enum (a : Ex) (Q : List D → En → Prop) : wp (evI cn (.enum a)) e Q = wp (ev cn a) e fun x e1 => wv x fun d => wo (enumL d) fun l => Q l e1 := by
  rw [evI]; simp only [wp_bind, wp_valM, wp_ofO]
theorem wp_it_zip2 (a b : Ex) (Q : List D → En → Prop) : wp (evI cn (.zip2 a b)) e Q = wp (ev cn a) e fun x e1 => wv x fun d => wp (ev cn b) e1 fun y e2 => wv y fun d' => wo (zipK d d') fun l => Q l e2 := by
  rw [evI]; simp only [wp_bind, wp_valM, wp_ofO]
theorem wp_it_rev (a : Ex) (Q : List D → En → Prop) : wp (evI cn (.rev a)) e Q = wp (ev cn a) e fun x e1 => wv x fun d => wo (revL d) fun l => Q l e1 := by
  rw [evI]; simp only [wp_bind, wp_valM, wp_ofO]
theorem wp_nm (i : Nat) (d : D) (Q : Unit → En → Prop) : wp (bindT (.nm i) d) e Q = we (e.set i (.sh d)) fun e' => Q () e' := by rw [bindT]; with_unfolding_all rfl
theorem wp_tp (ts : Tgs) (ds : List D) (Q : Unit → En → Prop) : wp (bindT (.tp ts) (.tuple ds)) e Q = wp (bindT.bindTs ts ds) e Q := by rw [bindT]
theorem wp_tpl (ts : Tgs) (ds : List D) (Q : Unit → En → Prop) : wp (bindT (.tp ts) (.list ds)) e Q = wp (bindT.bindTs ts ds) e Q := by rw [bindT]
theorem wp_tp_nil (Q : Unit → En → Prop) : wp (bindT.bindTs .nil []) e Q = Q () e := by rw [bindT.bindTs]; with_unfolding_all rfl
theorem wp_tp_cons (t : Tg) (ts : Tgs) (d : D) (ds : List D) (Q : Unit → En → Prop) : wp (bindT.bindTs (.cons t ts) (d :: ds)) e Q = wp (bindT t d) e fun _ e1 => wp (bindT.bindTs ts ds) e1 Q := by
  rw [bindT.bindTs]; simp only [wp_bind]
/-! own containers -/
theorem wp_W_lst (as : Exs) (Q : D → En → Prop) : wp (evW cn 1 (.lst as)) e Q = wp (evs cn as) e fun xs e1 => wvs xs fun ds => we ds.length fun n => n ≤ sline ∧ Q (.list ds) e1 := by
  rw [evW]; simp only [wp_bind, valsM_env, wp_ofO, wo_ite, wp_ret, wo_some]; with_unfolding_all rfl
theorem wp_W_lst2 (m : Nat) (as : Exs) (Q : D → En → Prop) : wp (evW cn (m + 2) (.lst as)) e Q = wp (evWs cn (m + 1) as) e fun ds e1 => we ds.length fun n => n ≤ sline ∧ Q (.list ds) e1 := by
  rw [evW]; simp only [wp_bind, wp_ofO, wo_ite, wp_ret, wo_some]; with_unfolding_all rfl
theorem wp_Ws_nil (m : Nat) (Q : List D → En → Prop) : wp (evWs cn m .nil) e Q = Q [] e := by rw [evWs]; with_unfolding_all rfl
theorem wp_Ws_cons (m : Nat) (a : Ex) (as : Exs) (Q : List D → En → Prop) : wp (evWs cn m (.cons a as)) e Q = wp (evW cn m a) e fun d e1 => wp (evWs cn m as) e1 fun ds e2 => Q (d :: ds) e2 := by
  rw [evWs]; simp only [wp_bind, wp_ret]
@[irreducible] def wls (d : D) (P : Prop) : Prop := match d with
  | .list _ => P
  | _ => False
theorem wls_l (xs : List D) (P : Prop) : wls (.list xs) P = P := by with_unfolding_all rfl
theorem wp_W_slc (a : Ex) (lo hi : Oe) (Q : D → En → Prop) : wp (evW cn 1 (.slc a lo hi)) e Q = wp (ev cn a) e fun x e1 => wp (evO cn lo) e1 fun l e2 => wp (evO cn hi) e2 fun h e3 => woA e3 [x] true (f1 fun p => slcD p l h) fun d => wls d (Q d e3) := by
  rw [evW]; simp only [wp_bind, wp_opM]
  congr 1; funext x e1; congr 1; funext l e2; congr 1; funext h e3; congr 1; funext d; cases d <;> with_unfolding_all rfl
theorem wp_W_rev (a : Ex) (Q : D → En → Prop) : wp (evW cn 1 (.rev a)) e Q = wp (ev cn a) e fun x e1 => woA e1 [x] true (f1 revD) fun d => Q d e1 := by
  rw [evW]; simp only [wp_bind, wp_opM]
theorem wp_W_bi (f : Bf) (as : Exs) (Q : D → En → Prop) : wp (evW cn 1 (.bi f as)) e Q = wp (evs cn as) e fun xs e1 => freshBi f = true ∧ woA e1 xs true (biD f) fun d => Q d e1 := by
  rw [evW]; simp only [wp_bind]
  congr 1; funext xs e1
  by_cases h : freshBi f = true
  · simp only [h, if_true, true_and, wp_opM]
  · rw [if_neg h, wp_bad]; exact (eq_false fun z => h z.1).symm
theorem wp_W_add (a b : Ex) (Q : D → En → Prop) : wp (evW cn 1 (.bin .Add a b)) e Q = wp (ev cn a) e fun x e1 => wp (ev cn b) e1 fun y e2 => woA e2 [x, y] true (f2 (binD .Add)) fun d => wls d (Q d e2) := by
  rw [evW]; simp only [wp_bind, wp_opM]
  congr 1; funext x e1; congr 1; funext l e2; congr 1; funext d; cases d <;> with_unfolding_all rfl
theorem wp_W_comp (ow : List Nat) (it : It) (tg : Tg) (cs : Exs) (el : Ex) (Q : D → En → Prop) : wp (evW cn 1 (.comp ow it tg cs el)) e Q = wp (evI cn it) e fun items e1 => wp (compM ow items tg (evB cn .And cs) (ev cn el)) e1 fun d e2 => Q d e2 := by
  rw [evW]; simp only [wp_bind]
theorem wp_W_call (m f n : Nat) (as ks : Exs) (src : List Sr) (Q : D → En → Prop) : wp (evW cn (m + 1) (.call f n as ks src)) e Q = wp (evs cn as) e fun xs e1 => wp (evs cn ks) e1 fun ys e2 => we (xs ++ ys) fun zs => wcall cn f zs src e2 fun m' d e' => m' = m + 1 ∧ Q d e' := by
  have key : ∀ n', evW cn (m + 1) (.call f n' as ks src) = (do
    let xs ← evs cn as
    let ys ← evs cn ks
    let p ← callM cn f (xs ++ ys) src
    ownOf (m + 1) p) := by intro n'; cases m <;> rw [evW]
  rw [key]; simp only [wp_bind, wp_callM]
  congr 1; funext xs e1; congr 1; funext ys e2
  rw [we_eq]
  congr 1; funext m' d e'
  unfold ownOf wp
  by_cases h : m' = m + 1
  · simp [h]
  · simp [h]
theorem wp_W_ife (m : Nat) (c a b : Ex) (Q : D → En → Prop) : wp (evW cn (m + 1) (.ife c a b)) e Q = wp (tstM (ev cn c)) e fun t e1 => wif t (wp (evW cn (m + 1) a) e1 Q) (wp (evW cn (m + 1) b) e1 Q) := by
  have key : evW cn (m + 1) (.ife c a b) = (do let t ← tstM (ev cn c); if t then evW cn (m + 1) a else evW cn (m + 1) b) := by cases m <;> rw [evW]
  rw [key]; simp only [wp_bind]; congr 1; funext t e1; cases t <;> with_unfolding_all rfl
/-! statements -/
theorem wp_vM (m : M AV) (Q : D → En → Prop) : wp (vM m) e Q = wp m e fun x e1 => wv x fun d => Q d e1 := by unfold vM; simp only [wp_bind, wp_valM]
theorem wp_s_nil (Q : Fl → En → Prop) : wp (exs cn .nil) e Q = Q .nx e := by rw [exs]; with_unfolding_all rfl
theorem wp_s_cons (s : St) (ss : Sts) (Q : Fl → En → Prop) : wp (exs cn (.cons s ss)) e Q = wp (ex cn s) e fun f e1 => wnx f (wp (exs cn ss) e1 Q) fun f => Q f e1 := by
  rw [exs]; unfold seqM; simp only [wp_bind]; congr 1; funext f e1; cases f <;> with_unfolding_all rfl
theorem wp_asg0 (i : Nat) (a : Ex) (Q : Fl → En → Prop) : wp (ex cn (.asg 0 i a)) e Q = wp (ev cn a) e fun x e1 => wv x fun d => we (e1.set i (.sh d)) fun e2 => Q .nx e2 := by
  rw [ex]; unfold asgM; simp only [wp_bind, wp_vM, wp_wr, wp_ret]
theorem wp_asgW (m i : Nat) (a : Ex) (Q : Fl → En → Prop) : wp (ex cn (.asg (m + 1) i a)) e Q = wp (evW cn (m + 1) a) e fun d e1 => we (e1.set i (.ow (m + 1) d)) fun e2 => Q .nx e2 := by
  rw [ex]; unfold asgW; simp only [wp_bind, wp_wr, wp_ret]
theorem wp_unp (ts : Tgs) (a : Ex) (Q : Fl → En → Prop) : wp (ex cn (.unp ts a)) e Q = wp (ev cn a) e fun x e1 => wv x fun d => wp (bindT (.tp ts) d) e1 fun _ e2 => Q .nx e2 := by
  rw [ex]; unfold unpM; simp only [wp_bind, wp_vM, wp_ret]
theorem wp_aug (op : Operator) (i : Nat) (a : Ex) (Q : Fl → En → Prop) : wp (ex cn (.aug op i a)) e Q = wsh e[i]? fun p => wp (ev cn a) e fun x e1 => wv x fun d => wo (augF op p d) fun r => we (e1.set i (.sh r)) fun e2 => Q .nx e2 := by
  rw [ex]; unfold augM; simp only [wp_bind, wp_rdS, wp_vM, wp_ofO, wp_wr, wp_ret]
theorem wp_updO (i : Nat) (f : Nat → D → Option D) (Q : Unit → En → Prop) : wp (updO i f) e Q = wow e[i]? fun m c => wo (f m c) fun d => we (e.set i (.ow m d)) fun e' => Q () e' := by
  unfold updO; simp only [wp_bind, wp_rdO, wp_ofO, wp_wr]
@[irreducible] def wrl (o : Option Sl) (P : Prop) : Prop := wow o fun _ d => wls d P
theorem wrl_ow (m : Nat) (xs : List D) (P : Prop) : wrl (some (.ow m (.list xs))) P = P := by with_unfolding_all rfl
theorem wp_rdL (i : Nat) (Q : Unit → En → Prop) : wp (rdL i) e Q = wrl e[i]? (Q () e) := by
  unfold wp rdL
  cases e[i]? with
  | none => with_unfolding_all rfl
  | some s =>
    cases s with
    | ow m d => cases d <;> with_unfolding_all rfl
    | _ => with_unfolding_all rfl
theorem wp_sto0 (i : Nat) (k a : Ex) (Q : Fl → En → Prop) : wp (ex cn (.sto 0 i k a)) e Q = wp (ev cn a) e fun x e1 => wv x fun d => wow e1[i]? fun _ _ => wp (ev cn k) e1 fun y e2 => wv y fun q => wow e2[i]? fun m c => wo (stoF 0 q d m c) fun r => we (e2.set i (.ow m r)) fun e3 => Q .nx e3 := by
  rw [ex]; unfold stoM; simp only [wp_bind, wp_vM, wp_rdO, wp_updO, wp_ret]
theorem wp_stoW (w i : Nat) (k a : Ex) (Q : Fl → En → Prop) : wp (ex cn (.sto (w + 1) i k a)) e Q = wp (evW cn (w + 1) a) e fun d e1 => wow e1[i]? fun _ _ => wp (ev cn k) e1 fun y e2 => wv y fun q => wow e2[i]? fun m c => wo (stoF (w + 1) q d m c) fun r => we (e2.set i (.ow m r)) fun e3 => Q .nx e3 := by
  rw [ex]; unfold stoM; simp only [wp_bind, wp_vM, wp_rdO, wp_updO, wp_ret]
theorem wp_app0 (i : Nat) (a : Ex) (Q : Fl → En → Prop) : wp (ex cn (.app 0 i a)) e Q = wrl e[i]? (wp (ev cn a) e fun x e1 => wv x fun d => wow e1[i]? fun m c => wo (appF 0 d m c) fun r => we (e1.set i (.ow m r)) fun e3 => Q .nx e3) := by
  rw [ex]; unfold appM; simp only [wp_bind, wp_vM, wp_rdL, wp_updO, wp_ret]
theorem wp_appW (w i : Nat) (a : Ex) (Q : Fl → En → Prop) : wp (ex cn (.app (w + 1) i a)) e Q = wrl e[i]? (wp (evW cn (w + 1) a) e fun d e1 => wow e1[i]? fun m c => wo (appF (w + 1) d m c) fun r => we (e1.set i (.ow m r)) fun e3 => Q .nx e3) := by
  rw [ex]; unfold appM; simp only [wp_bind, wp_vM, wp_rdL, wp_updO, wp_ret]
theorem wp_mc_reverse (i : Nat) (Q : Fl → En → Prop) : wp (ex cn (.mc i .reverse .nil)) e Q = wrl e[i]? (wow e[i]? fun m c => wo (mmF .reverse [] m c) fun r => we (e.set i (.ow m r)) fun e3 => Q .nx e3) := by
  rw [ex]
  unfold mcM; simp only [wp_bind, wp_rdL, wp_updO, wp_ret]
theorem wp_mc_clear (i : Nat) (Q : Fl → En → Prop) : wp (ex cn (.mc i .clear .nil)) e Q = wrl e[i]? (wow e[i]? fun m c => wo (mmF .clear [] m c) fun r => we (e.set i (.ow m r)) fun e3 => Q .nx e3) := by
  rw [ex]
  unfold mcM; simp only [wp_bind, wp_rdL, wp_updO, wp_ret]
theorem wp_mc_extend (i : Nat) (a : Ex) (Q : Fl → En → Prop) : wp (ex cn (.mc i .extend (.cons a .nil))) e Q = wrl e[i]? (wp (evW cn 1 a) e fun d e1 => wow e1[i]? fun m c => wo (extF d m c) fun r => we (e1.set i (.ow m r)) fun e3 => Q .nx e3) := by
  rw [ex]; unfold extM; simp only [wp_bind, wp_rdL, wp_updO, wp_ret]
theorem wp_sfrz (i : Nat) (Q : Fl → En → Prop) : wp (ex cn (.frz i)) e Q = wow e[i]? fun _ d => we (e.set i (.sh d)) fun e' => Q .nx e' := by
  rw [ex]; unfold frzM; simp only [wp_bind, wp_rdO, wp_wr, wp_ret]
theorem wp_exp (a : Ex) (Q : Fl → En → Prop) : wp (ex cn (.exp a)) e Q = wp (ev cn a) e fun _ e1 => Q .nx e1 := by
  rw [ex]; unfold expM; simp only [wp_bind, wp_ret]
theorem wp_ret0 (a : Ex) (Q : Fl → En → Prop) : wp (ex cn (.ret 0 a)) e Q = wp (ev cn a) e fun x e1 => wv x fun d => Q (.rt 0 d) e1 := by
  rw [ex]; unfold retM; simp only [wp_bind, wp_vM, wp_ret]
theorem wp_retW (m : Nat) (a : Ex) (Q : Fl → En → Prop) : wp (ex cn (.ret (m + 1) a)) e Q = wp (evW cn (m + 1) a) e fun d e1 => Q (.rt (m + 1) d) e1 := by
  rw [ex]; unfold retM; simp only [wp_bind, wp_ret]
theorem wp_reto (i : Nat) (Q : Fl → En → Prop) : wp (ex cn (.reto i)) e Q = wow e[i]? fun m d => we (e.set i .no) fun e' => Q (.rt m d) e' := by
  rw [ex]; unfold retoM; simp only [wp_bind, wp_rdO, wp_wr, wp_ret]
theorem wp_retn (Q : Fl → En → Prop) : wp (ex cn .retn) e Q = Q (.rt 0 .none) e := by rw [ex]; with_unfolding_all rfl
theorem wp_ite (c : Ex) (a b : Sts) (Q : Fl → En → Prop) : wp (ex cn (.ite c a b)) e Q = wp (tstM (ev cn c)) e fun t e1 => wif t (wp (exs cn a) e1 Q) (wp (exs cn b) e1 Q) := by
  rw [ex]; unfold iteM; simp only [wp_bind]; congr 1; funext t e1; cases t <;> with_unfolding_all rfl
theorem wp_for (it : It) (tg : Tg) (b : Sts) (Q : Fl → En → Prop) : wp (ex cn (.for_ it tg b)) e Q = wp (evI cn it) e fun items e1 => wp (forL tg (exs cn b) items) e1 Q := by
  rw [ex]; unfold forM; simp only [wp_bind]
theorem wp_whl (c : Ex) (b : Sts) (Q : Fl → En → Prop) : wp (ex cn (.whl c b)) e Q = wp (whileL (tstM (ev cn c)) (exs cn b) cn.W) e Q := by rw [ex]
theorem wp_brk (Q : Fl → En → Prop) : wp (ex cn .brk) e Q = Q .bk e := by rw [ex]; with_unfolding_all rfl
theorem wp_cnt (Q : Fl → En → Prop) : wp (ex cn .cnt) e Q = Q .ct e := by rw [ex]; with_unfolding_all rfl
theorem wp_sbad (Q : Fl → En → Prop) : wp (ex cn .bad) e Q = False := by rw [ex]; with_unfolding_all rfl
theorem wp_par (is : List Nat) (as : Exs) (Q : Fl → En → Prop) : wp (ex cn (.par is as)) e Q = wp (evs cn as) e fun xs e1 => wvs xs fun ds => wp (parL is ds) e1 fun _ e2 => Q .nx e2 := by
  rw [ex]; unfold parM; simp only [wp_bind, valsM_env, wp_ret]
theorem wp_parL_nil (Q : Unit → En → Prop) : wp (parL [] []) e Q = Q () e := by with_unfolding_all rfl
theorem wp_parL_cons (i : Nat) (is : List Nat) (d : D) (ds : List D) (Q : Unit → En → Prop) : wp (parL (i :: is) (d :: ds)) e Q = we (e.set i (.sh d)) fun e1 => wp (parL is ds) e1 Q := by
  rw [parL]; simp only [wp_bind, wp_wr]
theorem wp_tryN (b : Sts) (Q : Fl → En → Prop) : wp (ex cn (.tryN b)) e Q = wp (exs cn b) e Q := by
  rw [ex]; unfold tryM wp
  cases h : exs cn b e <;> simp only [h]
theorem wp_pas (Q : Fl → En → Prop) : wp (ex cn .pas) e Q = Q .nx e := by rw [ex]; with_unfolding_all rfl
end
section
variable {α : Type} {e : En}
theorem wp_mono {m : M α} {Q Q' : α → En → Prop} (h : wp m e Q) (i : ∀ a e', Q a e' → Q' a e') : wp m e Q' := by
  unfold wp at *
  cases q : m e with
  | ok a e' => rw [q] at h; exact i _ _ h
  | ex x e' => rw [q] at h; exact h.elim
  | bad => rw [q] at h; exact h.elim
theorem wc_mono {r : CR} {Q Q' : Nat → D → En → Prop} (h : wc r Q) (i : ∀ m d o, Q m d o → Q' m d o) : wc r Q' := by
  unfold wc at *
  cases r with
  | ok m d o => exact i _ _ _ h
  | ex x o => exact h.elim
  | bad => exact h.elim
theorem wo_mono {o : Option α} {Q Q' : α → Prop} (h : wo o Q) (i : ∀ a, Q a → Q' a) : wo o Q' := by
  unfold wo at *
  cases o with
  | none => exact h.elim
  | some a => exact i _ h
theorem wo_none (Q : α → Prop) : ¬ wo none Q := by unfold wo; exact id
theorem wc_ex (x : Xn) (o : En) (Q : Nat → D → En → Prop) : ¬ wc (.ex x o) Q := by unfold wc; exact id
theorem wc_bad (Q : Nat → D → En → Prop) : ¬ wc .bad Q := by unfold wc; exact id
theorem wc_ok (m : Nat) (d : D) (o : En) (Q : Nat → D → En → Prop) : wc (.ok m d o) Q = Q m d o := by with_unfolding_all rfl
theorem wv_own (i : Nat) (P : D → Prop) : ¬ wv (.own i) P := by unfold wv; exact id
/-- a statement by itself, the rest behind it -/
theorem s_cut {cn : Cn} {s : St} {ss : Sts} {Q : Fl → En → Prop} (h : ∀ K : Fl → En → Prop, (∀ e1, wp (exs cn ss) e1 Q → K .nx e1) → (∀ m d e1, Q (.rt m d) e1 → K (.rt m d) e1) → (∀ e1, Q .bk e1 → K .bk e1) → (∀ e1, Q .ct e1 → K .ct e1) → wp (ex cn s) e K) : wp (exs cn (.cons s ss)) e Q := by
  rw [wp_s_cons]
  exact h _ (fun _ h => by rwa [wnx_nx]) (fun _ _ _ h => by rwa [wnx_rt]) (fun _ h => by rwa [wnx_bk]) fun _ h => by rwa [wnx_ct]
/-! loops -/
/-- what a turn's flow comes to -/
@[irreducible] def wtn (f : Fl) (A : Prop) (B : Fl → Prop) : Prop := match f with
  | .nx => A
  | .ct => A
  | .bk => B .nx
  | .rt m d => B (.rt m d)
theorem wtn_nx (A : Prop) (B : Fl → Prop) : wtn .nx A B = A := by with_unfolding_all rfl
theorem wtn_ct (A : Prop) (B : Fl → Prop) : wtn .ct A B = A := by with_unfolding_all rfl
theorem wtn_bk (A : Prop) (B : Fl → Prop) : wtn .bk A B = B .nx := by with_unfolding_all rfl
theorem wtn_rt (m : Nat) (d : D) (A : Prop) (B : Fl → Prop) : wtn (.rt m d) A B = B (.rt m d) := by with_unfolding_all rfl
theorem wp_forL_nil (tg : Tg) (b : M Fl) (Q : Fl → En → Prop) : wp (forL tg b []) e Q = Q .nx e := by with_unfolding_all rfl
theorem wp_forL_cons (tg : Tg) (b : M Fl) (x : D) (xs : List D) (Q : Fl → En → Prop) : wp (forL tg b (x :: xs)) e Q = wp (bindT tg x) e fun _ e1 => wp b e1 fun f e2 => wtn f (wp (forL tg b xs) e2 Q) fun f => Q f e2 := by
  rw [forL]; simp only [wp_bind]; congr 1; funext _ e1; congr 1; funext f e2; cases f <;> with_unfolding_all rfl
/-- a for over data of one kind -/
theorem forI {β : Type} {g : β → D} {tg : Tg} {b : M Fl} {Q : Fl → En → Prop} (I : List β → En → Prop) : ∀ {xs : List β} {e : En}, I xs e →
    (∀ x xs e, I (x :: xs) e → wp (bindT tg (g x)) e fun _ e1 => wp b e1 fun f e2 => wtn f (I xs e2) fun f => Q f e2) →
    (∀ e, I [] e → Q .nx e) → wp (forL tg b (xs.map g)) e Q
  | [], e, h, _, q => by rw [List.map_nil, wp_forL_nil]; exact q e h
  | x :: xs, e, h, s, q => by
    rw [List.map_cons, wp_forL_cons]
    refine wp_mono (s x xs e h) fun _ e1 h1 => wp_mono h1 fun f e2 h2 => ?_
    cases f with
    | nx => rw [wtn_nx] at *; exact forI I h2 s q
    | ct => rw [wtn_ct] at *; exact forI I h2 s q
    | bk => rw [wtn_bk] at *; exact h2
    | rt m d => rw [wtn_rt] at *; exact h2
theorem whileI {c : M Bool} {b : M Fl} {Q : Fl → En → Prop} (I : Nat → En → Prop) : ∀ {n : Nat} {v : Nat} {e : En}, v < n → I v e →
    (∀ v e, I v e → wp c e fun t e1 => wif t (wp b e1 fun f e2 => wtn f (∃ v', v' < v ∧ I v' e2) fun f => Q f e2) (Q .nx e1)) → wp (whileL c b n) e Q
  | 0, v, e, hv, _, _ => absurd hv (Nat.not_lt_zero _)
  | n + 1, v, e, hv, h, s => by
    rw [whileL]
    rw [wp_bind]
    refine wp_mono (s v e h) fun t e1 h1 => ?_
    cases t with
    | false => rw [wif_f] at h1; show wp (M.ret .nx) e1 Q; rw [wp_ret]; exact h1
    | true =>
      rw [wif_t] at h1
      show wp (b >>= _) e1 Q
      rw [wp_bind]
      refine wp_mono h1 fun f e2 h2 => ?_
      cases f with
      | nx => rw [wtn_nx] at h2; obtain ⟨v', a, i⟩ := h2; exact whileI I (v := v') (by omega) i s
      | ct => rw [wtn_ct] at h2; obtain ⟨v', a, i⟩ := h2; exact whileI I (v := v') (by omega) i s
      | bk => rw [wtn_bk] at h2; show wp (M.ret .nx) e2 Q; rw [wp_ret]; exact h2
      | rt m d => rw [wtn_rt] at h2; show wp (M.ret (.rt m d)) e2 Q; rw [wp_ret]; exact h2
/-! comprehensions -/
theorem compL_I {β : Type} {g : β → D} {vs : List Nat} {body : D → M (Option D)} (I : List β → List D → En → Prop) : ∀ {xs : List β} {acc : List D} {e : En}, I xs acc e →
    (∀ x xs acc e, I (x :: xs) acc e → wp (body (g x)) e fun o e1 => I xs (acc ++ o.toList) (wipe vs e1)) →
    wp (compL vs body (xs.map g)) e fun ds e1 => I [] (acc ++ ds) e1
  | [], acc, e, h, _ => by
    have e1 : wp (compL vs body (([] : List β).map g)) e (fun ds e1 => I [] (acc ++ ds) e1) = I [] (acc ++ []) e := by with_unfolding_all rfl
    rw [e1, List.append_nil]
    exact h
  | x :: xs, acc, e, h, s => by
    have h1 := s x xs acc e h
    unfold wp at h1 ⊢
    rw [List.map_cons, compL]
    cases q : body (g x) e with
    | bad => rw [q] at h1; exact h1.elim
    | ex z e' => rw [q] at h1; exact h1.elim
    | ok o e1 =>
      rw [q] at h1
      simp only at h1 ⊢
      have h2 := compL_I I (xs := xs) h1 s
      unfold wp at h2
      simp only [q]
      cases q2 : compL vs body (xs.map g) (wipe vs e1) with
      | bad => rw [q2] at h2; exact h2.elim
      | ex z e' => rw [q2] at h2; exact h2.elim
      | ok ds e2 =>
        rw [q2] at h2
        simp only at h2 ⊢
        rwa [List.append_assoc] at h2
/-- a comprehension -/
theorem compI {β : Type} {g : β → D} {vs : List Nat} {tg : Tg} {cs : M Bool} {el : M AV} {Q : D → En → Prop} {xs : List β} (I : List β → List D → En → Prop) (hl : xs.length ≤ sline) (h : we (wipe vs e) fun e' => I xs [] e')
    (s : ∀ x xs acc e, I (x :: xs) acc e → wp (bindT tg (g x)) e fun _ e1 => wp cs e1 fun b e2 => wif b (wp el e2 fun y e3 => wv y fun d => we (wipe vs e3) fun e4 => I xs (acc ++ [d]) e4) (we (wipe vs e2) fun e4 => I xs acc e4))
    (q : ∀ acc e1, I [] acc e1 → we (putBack vs e e1) fun e2 => Q (.list acc) e2) : wp (compM vs (xs.map g) tg cs el) e Q := by
  unfold compM wp
  simp only
  rw [if_neg (by rw [List.length_map]; omega)]
  have h1 := compL_I (vs := vs) (body := fun x => (do
        bindT tg x
        let b ← cs
        if b then (do let y ← el; let d ← valM y; M.ret (some d)) else M.ret none)) I (xs := xs) (acc := []) (e := wipe vs e) (by rwa [we_eq] at h) (fun x xs acc e hi => by
    rw [wp_bind]
    refine wp_mono (s x xs acc e hi) fun _ e1 h1 => ?_
    rw [wp_bind]
    refine wp_mono h1 fun b e2 h2 => ?_
    cases b with
    | true =>
      rw [wif_t] at h2
      show wp (el >>= _) e2 _
      simp only [wp_bind, wp_valM, wp_ret]
      refine wp_mono h2 fun y e3 h3 => ?_
      cases y with
      | own i => exact (wv_own i _ h3).elim
      | val d => rw [wv_val, we_eq] at h3; rw [wv_val]; exact h3
    | false =>
      rw [wif_f, we_eq] at h2
      show wp (M.ret none) e2 _
      rw [wp_ret]
      show I xs (acc ++ []) (wipe vs e2)
      rw [List.append_nil]
      exact h2)
  unfold wp at h1
  cases q2 : compL vs (fun x => (do
        bindT tg x
        let b ← cs
        if b then (do let y ← el; let d ← valM y; M.ret (some d)) else M.ret none)) (xs.map g) (wipe vs e) with
  | bad => rw [q2] at h1; exact h1.elim
  | ex z e' => rw [q2] at h1; exact h1.elim
  | ok ds e2 =>
    rw [q2] at h1
    have h3 := q _ _ h1
    rw [we_eq] at h3
    exact h3
/-- a comprehension whose turns change nothing -/
theorem compP {β : Type} {g : β → D} {vs : List Nat} {tg : Tg} {cs : M Bool} {el : M AV} {Q : D → En → Prop} {xs : List β} (f : β → Option D) (hl : xs.length ≤ sline)
    (s : ∀ x ∈ xs, we (wipe vs e) fun e => wp (bindT tg (g x)) e fun _ e1 => wp cs e1 fun b e2 => wif b (wp el e2 fun y e3 => wv y fun d => we (wipe vs e3) fun e4 => f x = some d ∧ e4 = e) (we (wipe vs e2) fun e4 => f x = none ∧ e4 = e))
    (q : we (putBack vs e (wipe vs e)) fun e2 => Q (.list (xs.filterMap f)) e2) : wp (compM vs (xs.map g) tg cs el) e Q := by
  refine compI (fun r acc e' => e' = wipe vs e ∧ (∃ l, xs = l ++ r ∧ acc = l.filterMap f)) hl (by rw [we_eq]; exact ⟨rfl, [], rfl, rfl⟩) (fun x r acc e1 hi => ?_) (fun acc e1 hi => ?_)
  · obtain ⟨rfl, l, hl, rfl⟩ := hi
    have s1 := s x (by rw [hl]; simp)
    rw [we_eq] at s1
    refine wp_mono s1 fun _ e1 h1 => wp_mono h1 fun b e2 h2 => ?_
    cases b with
    | true =>
      rw [wif_t] at *
      refine wp_mono h2 fun y e3 h3 => ?_
      cases y with
      | own i => exact (wv_own i _ h3).elim
      | val d =>
        rw [wv_val, we_eq] at *
        obtain ⟨h4, h5⟩ := h3
        refine ⟨h5, l ++ [x], by rw [hl]; simp, ?_⟩
        rw [List.filterMap_append, List.filterMap_cons, h4]
        rfl
    | false =>
      rw [wif_f, we_eq] at *
      obtain ⟨h4, h5⟩ := h2
      refine ⟨h5, l ++ [x], by rw [hl]; simp, ?_⟩
      rw [List.filterMap_append, List.filterMap_cons, h4]
      simp
  · obtain ⟨rfl, l, hl, rfl⟩ := hi
    rw [List.append_nil] at hl
    subst hl
    exact q
/-! calls -/
@[irreducible] def wfin (ps : List Nat) (ea : En) (f : Fl) (e : En) (Q : Nat → D → En → Prop) : Prop := match f with
  | .rt m d => wo (finO ps ea e) (Q m d)
  | .nx => wo (finO ps ea e) (Q 0 .none)
  | _ => False
theorem wfin_rt (ps : List Nat) (ea : En) (m : Nat) (d : D) (Q : Nat → D → En → Prop) : wfin ps ea (.rt m d) e Q = wo (finO ps ea e) (Q m d) := by with_unfolding_all rfl
theorem wfin_nx (ps : List Nat) (ea : En) (Q : Nat → D → En → Prop) : wfin ps ea .nx e Q = wo (finO ps ea e) (Q 0 .none) := by with_unfolding_all rfl
theorem wfin_bk (ps : List Nat) (ea : En) (Q : Nat → D → En → Prop) : ¬ wfin ps ea .bk e Q := by unfold wfin; exact id
theorem wfin_ct (ps : List Nat) (ea : En) (Q : Nat → D → En → Prop) : ¬ wfin ps ea .ct e Q := by unfold wfin; exact id
theorem wc_run {P : Pr} {k f : Nat} {F : Fd} {ea : En} {Q : Nat → D → En → Prop} (hF : P.F[f]? = some F) (hm : modeOk F.ps ea = true) (h : wp (exs ⟨P.G, P.W, run P k⟩ F.body) (ea ++ List.replicate (F.n - F.ps.length) .no) fun fl e => wfin F.ps ea fl e Q) : wc (run P (k + 1) f ea) Q := by
  unfold run
  simp only [hF, hm, if_true]
  unfold wp at h
  cases q : exs ⟨P.G, P.W, run P k⟩ F.body (ea ++ List.replicate (F.n - F.ps.length) .no) with
  | bad => rw [q] at h; exact h.elim
  | ex z e' => rw [q] at h; exact h.elim
  | ok fl e' =>
    rw [q] at h
    simp only at h
    have fin : ∀ m d, wo (finO F.ps ea e') (Q m d) → wc (match finO F.ps ea e' with | some o => .ok m d o | none => .bad) Q := fun m d h => by
      cases q2 : finO F.ps ea e' with
      | none => rw [q2] at h; exact (wo_none _ h).elim
      | some o => rw [q2, wo_some] at h; rw [wc_ok]; exact h
    cases fl with
    | nx => rw [wfin_nx] at h; exact fin 0 .none h
    | bk => exact (wfin_bk _ _ _ h).elim
    | ct => exact (wfin_ct _ _ _ h).elim
    | rt m d => rw [wfin_rt] at h; exact fin m d h
def IsV (v d : D) : Prop := d = v
theorem run_of {P : Pr} {k f : Nat} {ea : En} {v : D} (h : wc (run P k f ea) fun _ d _ => IsV v d) : ∃ m o, run P k f ea = .ok m v o := by
  cases q : run P k f ea with
  | ok m d o => rw [q, wc_ok] at h; have h : d = v := h; exact ⟨m, o, by rw [h]⟩
  | ex z e' => rw [q] at h; exact (wc_ex _ _ _ h).elim
  | bad => rw [q] at h; exact (wc_bad _ h).elim
end
end Pv

/-! PvD: the operations' rules on data of known kinds. -/
namespace Pv
open PySem
section
variable {P : D → Prop} {R : Bool → Prop}
theorem b_add (i j : Int) : wo (binD .Add (.int i) (.int j)) P = P (.int (i + j)) := by with_unfolding_all rfl
theorem b_sub (i j : Int) : wo (binD .Sub (.int i) (.int j)) P = P (.int (i - j)) := by with_unfolding_all rfl
theorem b_mul (i j : Int) : wo (binD .Mult (.int i) (.int j)) P = (((-18446744073709551616 < i ∧ i < 18446744073709551616) ∨ (-18446744073709551616 < j ∧ j < 18446744073709551616)) ∧ P (.int (i * j))) := by
  show wo (if mulOk i j = true then _ else none) P = _
  rw [wo_bite, wo_some]
  congr 1
  unfold mulOk
  rw [Bool.or_eq_true, decide_eq_true_eq, decide_eq_true_eq]
  apply propext
  have e : (2 : Nat) ^ 64 = 18446744073709551616 := by decide
  rw [e]
  omega
theorem b_fdiv (i j : Int) : wo (binD .FloorDiv (.int i) (.int j)) P = ((j ≠ 0 ∧ -1073741824 < j ∧ j < 1073741824) ∧ P (.int (i.fdiv j))) := by
  show wo (if j ≠ 0 ∧ j.natAbs < 1073741824 then _ else none) P = _
  rw [wo_ite, wo_some]
  congr 1
  apply propext
  omega
theorem b_mod (i j : Int) : wo (binD .Mod (.int i) (.int j)) P = (j ≠ 0 ∧ P (.int (i.fmod j))) := by
  show wo (if j ≠ 0 then _ else none) P = _
  rw [wo_ite]; with_unfolding_all rfl
theorem b_muls (x : Str) (n : Int) : wo (binD .Mult (.str x) (.int n)) P = ((-1000 ≤ n ∧ n ≤ 1000 ∧ x.length ≤ 10000) ∧ P (.str (mulS x n))) := by
  show wo (if -1000 ≤ n ∧ n ≤ 1000 ∧ x.length ≤ 10000 then _ else none) P = _
  rw [wo_ite, wo_some]
theorem b_mult (xs : List D) (n : Int) : wo (binD .Mult (.tuple xs) (.int n)) P = ((xs ≠ [] ∧ 1 ≤ n ∧ n ≤ 1000 ∧ xs.length ≤ 1000) ∧ P (.tuple (List.replicate n.toNat xs).flatten)) := by
  show wo (if xs ≠ [] ∧ 1 ≤ n ∧ n ≤ 1000 ∧ xs.length ≤ 1000 then _ else none) P = _
  rw [wo_ite, wo_some]
theorem b_mulli (xs : List D) (n : Int) : wo (binD .Mult (.list xs) (.int n)) P = ((-1000 ≤ n ∧ n ≤ 1000 ∧ xs.length ≤ 10000) ∧ P (.list (List.replicate n.toNat xs).flatten)) := by
  show wo (if -1000 ≤ n ∧ n ≤ 1000 ∧ xs.length ≤ 10000 then _ else none) P = _
  rw [wo_ite, wo_some]
theorem b_pow (i j : Int) : wo (binD .Pow (.int i) (.int j)) P = (((0 ≤ j ∧ j ≤ 1000000 ∧ -18446744073709551616 < i ∧ i < 18446744073709551616) ∨ (0 ≤ j ∧ j ≤ 100 ∧ -1606938044258990275541962092341162602522202993782792835301376 < i ∧ i < 1606938044258990275541962092341162602522202993782792835301376)) ∧ P (.int (i ^ j.toNat))) := by
  show wo (if (0 ≤ j ∧ j ≤ 1000000 ∧ i.natAbs < 2 ^ 64) ∨ (0 ≤ j ∧ j ≤ 100 ∧ i.natAbs < 2 ^ 200) then _ else none) P = _
  rw [wo_ite, wo_some]
  congr 1
  apply propext
  have e : (2 : Nat) ^ 64 = 18446744073709551616 := by decide
  have e2 : (2 : Nat) ^ 200 = 1606938044258990275541962092341162602522202993782792835301376 := by decide
  rw [e, e2]
  omega
theorem b_adds (x y : Str) : wo (binD .Add (.str x) (.str y)) P = (x.length + y.length ≤ sline ∧ P (.str (x ++ y))) := by
  show wo (if x.length + y.length ≤ sline then _ else none) P = _
  rw [wo_ite]; with_unfolding_all rfl
theorem b_addl (x y : List D) : wo (binD .Add (.list x) (.list y)) P = (x.length + y.length ≤ sline ∧ P (.list (x ++ y))) := by
  show wo (if x.length + y.length ≤ sline then _ else none) P = _
  rw [wo_ite]; with_unfolding_all rfl
theorem b_addt (x y : List D) : wo (binD .Add (.tuple x) (.tuple y)) P = (x.length + y.length ≤ sline ∧ P (.tuple (x ++ y))) := by
  show wo (if x.length + y.length ≤ sline then _ else none) P = _
  rw [wo_ite]; with_unfolding_all rfl
theorem b_modp (i j : Int) (h : 0 < j) : wo (binD .Mod (.int i) (.int j)) P = P (.int (i % j)) := by
  rw [b_mod, Int.fmod_eq_emod_of_nonneg i (by omega)]
  apply propext
  exact ⟨fun h => h.2, fun h' => ⟨by omega, h'⟩⟩
theorem b_fdivp (i j : Int) (h : 0 < j) (h2 : j < 1073741824) : wo (binD .FloorDiv (.int i) (.int j)) P = P (.int (i / j)) := by
  rw [b_fdiv, Int.fdiv_eq_ediv_of_nonneg i (by omega)]
  apply propext
  exact ⟨fun h => h.2, fun h' => ⟨by omega, h'⟩⟩
theorem b_mull (i j : Int) (h : -18446744073709551616 < i) (h2 : i < 18446744073709551616) : wo (binD .Mult (.int i) (.int j)) P = P (.int (i * j)) := by
  rw [b_mul]
  apply propext
  exact ⟨fun h => h.2, fun h' => ⟨.inl ⟨h, h2⟩, h'⟩⟩
theorem b_mulr (i j : Int) (h : -18446744073709551616 < j) (h2 : j < 18446744073709551616) : wo (binD .Mult (.int i) (.int j)) P = P (.int (i * j)) := by
  rw [b_mul]
  apply propext
  exact ⟨fun h => h.2, fun h' => ⟨.inr ⟨h, h2⟩, h'⟩⟩
theorem n_int (i : Int) : wo (negD (.int i)) P = P (.int (-i)) := by with_unfolding_all rfl
/-! comparisons -/
theorem plain_int (i : Int) : eqOk (.int i) = true := by with_unfolding_all rfl
theorem plain_str (x : Str) : eqOk (.str x) = true := by with_unfolding_all rfl
theorem c_eq (a b : D) : wcm .Eq a b R = ((eqOk a && eqOk b) = true ∧ R (PyData.eqv a b)) := by
  unfold wcm
  show wo (if (eqOk a && eqOk b) = true then _ else none) R = _
  rw [wo_bite]; with_unfolding_all rfl
theorem c_ne (a b : D) : wcm .NotEq a b R = ((eqOk a && eqOk b) = true ∧ R (!PyData.eqv a b)) := by
  unfold wcm
  show wo (if (eqOk a && eqOk b) = true then _ else none) R = _
  rw [wo_bite]; with_unfolding_all rfl
theorem c_eqi (i j : Int) : wcm .Eq (.int i) (.int j) R = R (decide (i = j)) := by
  rw [c_eq]
  have : PyData.eqv (.int i) (.int j) = decide (i = j) := by simp only [PyData.eqv]; by_cases h : i = j <;> simp [h]
  rw [this]; simp [plain_int]
theorem c_nei (i j : Int) : wcm .NotEq (.int i) (.int j) R = R (!decide (i = j)) := by
  rw [c_ne]
  have : PyData.eqv (.int i) (.int j) = decide (i = j) := by simp only [PyData.eqv]; by_cases h : i = j <;> simp [h]
  rw [this]; simp [plain_int]
theorem c_eqs (i j : Str) : wcm .Eq (.str i) (.str j) R = R (decide (i = j)) := by
  rw [c_eq]
  have : PyData.eqv (.str i) (.str j) = decide (i = j) := by simp only [PyData.eqv]; by_cases h : i = j <;> simp [h]
  rw [this]; simp [plain_str]
theorem c_nes (i j : Str) : wcm .NotEq (.str i) (.str j) R = R (!decide (i = j)) := by
  rw [c_ne]
  have : PyData.eqv (.str i) (.str j) = decide (i = j) := by simp only [PyData.eqv]; by_cases h : i = j <;> simp [h]
  rw [this]; simp [plain_str]
theorem cmpD_int (i j : Int) : cmpD (.int i) (.int j) = some (if i < j then .lt else if j < i then .gt else .eq) := by with_unfolding_all rfl
theorem c_lt (i j : Int) : wcm .Lt (.int i) (.int j) R = R (decide (i < j)) := by
  unfold wcm
  show wo (some ((if i < j then Ordering.lt else if j < i then .gt else .eq) == .lt)) R = _
  rw [wo_some]
  congr 1; by_cases h : i < j
  · simp [h]
  · by_cases h2 : j < i <;> simp [h, h2]
theorem c_le (i j : Int) : wcm .LtE (.int i) (.int j) R = R (decide (i ≤ j)) := by
  unfold wcm
  show wo (some ((if i < j then Ordering.lt else if j < i then .gt else .eq) != .gt)) R = _
  rw [wo_some]
  congr 1; by_cases h : i < j
  · have : i ≤ j := by omega
    simp [h, this]
  · by_cases h2 : j < i
    · have : ¬ i ≤ j := by omega
      simp [h, h2, this]
    · have : i ≤ j := by omega
      simp [h, h2, this]
theorem c_gt (i j : Int) : wcm .Gt (.int i) (.int j) R = R (decide (j < i)) := by
  unfold wcm
  show wo (some ((if i < j then Ordering.lt else if j < i then .gt else .eq) == .gt)) R = _
  rw [wo_some]
  congr 1; by_cases h : i < j
  · have : ¬ j < i := by omega
    simp [h, this]
  · by_cases h2 : j < i <;> simp [h, h2]
theorem c_ge (i j : Int) : wcm .GtE (.int i) (.int j) R = R (decide (j ≤ i)) := by
  unfold wcm
  show wo (some ((if i < j then Ordering.lt else if j < i then .gt else .eq) != .lt)) R = _
  rw [wo_some]
  congr 1; by_cases h : i < j
  · have : ¬ j ≤ i := by omega
    simp [h, this]
  · have : j ≤ i := by omega
    by_cases h2 : j < i <;> simp [h, h2, this]
theorem c_is (a : D) : wcm .Is a .none R = R (isNone a) := by cases a <;> with_unfolding_all rfl
theorem c_isn (a : D) : wcm .IsNot a .none R = R (!isNone a) := by cases a <;> with_unfolding_all rfl
theorem c_isb (a b : Bool) : wcm .Is (.bool a) (.bool b) R = R (decide (a = b)) := by with_unfolding_all rfl
theorem c_isnb (a b : Bool) : wcm .IsNot (.bool a) (.bool b) R = R (!decide (a = b)) := by with_unfolding_all rfl
theorem c_insg (x z : Str) : wcm .In (.str x) (.str z) R = (x.length = 1 ∧ R (decide (x.cps.getD 0 0 ∈ z.cps.toList))) := by
  unfold wcm
  show wo (if x.length = 1 then some _ else none) R = _
  rw [wo_ite, wo_some]
theorem c_ninsg (x z : Str) : wcm .NotIn (.str x) (.str z) R = (x.length = 1 ∧ R (!decide (x.cps.getD 0 0 ∈ z.cps.toList))) := by
  unfold wcm
  show wo (if x.length = 1 then some _ else none) R = _
  rw [wo_ite, wo_some]
theorem i_dict (kvs : List (D × D)) (k : D) : wo (idxD (.dict kvs) k) P = (keyOk k = true ∧ wo (lookD k kvs) P) := by
  show wo (if keyOk k = true then lookD k kvs else none) P = _
  rw [wo_bite]
theorem d_get1 (kvs : List (D × D)) (k : D) : wo (dget1D (.dict kvs) k) P = ((keyOk k || isNone k) = true ∧ P ((lookD k kvs).getD .none)) := by
  show wo (if (keyOk k || isNone k) = true then some ((lookD k kvs).getD .none) else none) P = _
  rw [wo_bite, wo_some]
theorem d_get2 (kvs : List (D × D)) (k z : D) : wo (dget2D (.dict kvs) k z) P = (keyOk k = true ∧ P ((lookD k kvs).getD z)) := by
  show wo (if keyOk k = true then some ((lookD k kvs).getD z) else none) P = _
  rw [wo_bite, wo_some]
theorem c_int (a : D) (xs : List D) : wcm .In a (.tuple xs) R = ((eqOk a && eqOk (.tuple xs)) = true ∧ R (xs.any fun z => PyData.eqv z a)) := by
  unfold wcm
  have e : cmpOpD .In a (.tuple xs) = if (eqOk a && eqOk (.tuple xs)) = true then some (xs.any fun z => PyData.eqv z a) else none := by cases a <;> with_unfolding_all rfl
  rw [e, wo_bite]; with_unfolding_all rfl
theorem c_inl (a : D) (xs : List D) : wcm .In a (.list xs) R = ((eqOk a && eqOk (.list xs)) = true ∧ R (xs.any fun z => PyData.eqv z a)) := by
  unfold wcm
  have e : cmpOpD .In a (.list xs) = if (eqOk a && eqOk (.list xs)) = true then some (xs.any fun z => PyData.eqv z a) else none := by cases a <;> with_unfolding_all rfl
  rw [e, wo_bite]; with_unfolding_all rfl
theorem c_nint (a : D) (xs : List D) : wcm .NotIn a (.tuple xs) R = ((eqOk a && eqOk (.tuple xs)) = true ∧ R (!xs.any fun z => PyData.eqv z a)) := by
  unfold wcm
  have e : cmpOpD .NotIn a (.tuple xs) = if (eqOk a && eqOk (.tuple xs)) = true then some (!xs.any fun z => PyData.eqv z a) else none := by cases a <;> with_unfolding_all rfl
  rw [e, wo_bite]; with_unfolding_all rfl
theorem c_ninl (a : D) (xs : List D) : wcm .NotIn a (.list xs) R = ((eqOk a && eqOk (.list xs)) = true ∧ R (!xs.any fun z => PyData.eqv z a)) := by
  unfold wcm
  have e : cmpOpD .NotIn a (.list xs) = if (eqOk a && eqOk (.list xs)) = true then some (!xs.any fun z => PyData.eqv z a) else none := by cases a <;> with_unfolding_all rfl
  rw [e, wo_bite]; with_unfolding_all rfl
/-! items -/
@[irreducible] def wat {α : Type} (xs : List α) (i : Int) (P : α → Prop) : Prop := wo (atI xs i) P
theorem i_list (xs : List D) (i : Int) : wo (idxD (.list xs) (.int i)) P = wat xs i P := by with_unfolding_all rfl
theorem i_tup (xs : List D) (i : Int) : wo (idxD (.tuple xs) (.int i)) P = wat xs i P := by with_unfolding_all rfl
theorem i_str (x : Str) (i : Int) : wo (idxD (.str x) (.int i)) P = (x.length ≤ sline ∧ wat x.cps.toList i fun c => P (.str ⟨#[c]⟩)) := by
  show wo (if x.length ≤ sline then (atI x.cps.toList i).map fun c => PyData.str ⟨#[c]⟩ else none) P = _
  rw [wo_ite, wo_map]; with_unfolding_all rfl
theorem atI_nat {α : Type} (xs : List α) (n : Nat) : atI xs (n : Int) = xs[n]? := by
  show L2.atI xs (n : Int) = _
  unfold L2.atI L2.ixN
  by_cases h : n < xs.length
  · simp [h]
  · simp [h, List.getElem?_eq_none (by omega : xs.length ≤ n)]
theorem wat_nat {α : Type} (xs : List α) (n : Nat) (P : α → Prop) : wat xs (n : Int) P = wo xs[n]? P := by unfold wat; rw [atI_nat]
theorem wat_0 {α : Type} (xs : List α) (P : α → Prop) : wat xs 0 P = wo xs[0]? P := wat_nat xs 0 P
theorem wat_1 {α : Type} (xs : List α) (P : α → Prop) : wat xs 1 P = wo xs[1]? P := wat_nat xs 1 P
theorem wat_2 {α : Type} (xs : List α) (P : α → Prop) : wat xs 2 P = wo xs[2]? P := wat_nat xs 2 P
theorem wat_3 {α : Type} (xs : List α) (P : α → Prop) : wat xs 3 P = wo xs[3]? P := wat_nat xs 3 P
theorem wat_4 {α : Type} (xs : List α) (P : α → Prop) : wat xs 4 P = wo xs[4]? P := wat_nat xs 4 P
theorem wat_5 {α : Type} (xs : List α) (P : α → Prop) : wat xs 5 P = wo xs[5]? P := wat_nat xs 5 P
theorem wat_6 {α : Type} (xs : List α) (P : α → Prop) : wat xs 6 P = wo xs[6]? P := wat_nat xs 6 P
theorem wat_7 {α : Type} (xs : List α) (P : α → Prop) : wat xs 7 P = wo xs[7]? P := wat_nat xs 7 P
theorem wat_8 {α : Type} (xs : List α) (P : α → Prop) : wat xs 8 P = wo xs[8]? P := wat_nat xs 8 P
theorem wat_map {α β : Type} (g : α → β) (xs : List α) (i : Int) (P : β → Prop) : wat (xs.map g) i P = wat xs i fun a => P (g a) := by
  unfold wat
  show wo (L2.atI _ _) _ = wo (L2.atI _ _) _
  unfold L2.atI
  rw [List.length_map]
  cases L2.ixN xs.length i with
  | none => with_unfolding_all rfl
  | some j =>
    show wo ((xs.map g)[j]?) P = wo (xs[j]?) _
    rw [List.getElem?_map, wo_map]
theorem wat_of {α : Type} {xs : List α} {i : Int} {P : α → Prop} (h0 : 0 ≤ i) (h1 : i < xs.length) (h : ∀ a, xs[i.toNat]? = some a → P a) : wat xs i P := by
  obtain ⟨n, rfl⟩ := Int.eq_ofNat_of_zero_le h0
  rw [wat_nat]
  have hn : n < xs.length := by omega
  rw [List.getElem?_eq_getElem hn, wo_some]
  exact h _ (by simp [hn])
/-! stores -/
theorem ixN_nat (n m : Nat) : ixN n (m : Int) = if m < n then some m else none := by
  show L2.ixN n (m : Int) = _
  unfold L2.ixN
  by_cases h : m < n
  · simp [h]
  · simp [h]
theorem s_nat (w n : Nat) (xs : List D) (d : D) : wo (stoF w (.int (n : Int)) d (w + 1) (.list xs)) P = (n < xs.length ∧ P (.list (xs.set n d))) := by
  unfold stoF
  simp only [if_true, ixN_nat, wo_map]
  by_cases h : n < xs.length <;> simp [h, wo]
theorem s_0 (w : Nat) (xs : List D) (d : D) : wo (stoF w (.int 0) d (w + 1) (.list xs)) P = (0 < xs.length ∧ P (.list (xs.set 0 d))) := s_nat w 0 xs d
theorem s_1 (w : Nat) (xs : List D) (d : D) : wo (stoF w (.int 1) d (w + 1) (.list xs)) P = (1 < xs.length ∧ P (.list (xs.set 1 d))) := s_nat w 1 xs d
theorem s_2 (w : Nat) (xs : List D) (d : D) : wo (stoF w (.int 2) d (w + 1) (.list xs)) P = (2 < xs.length ∧ P (.list (xs.set 2 d))) := s_nat w 2 xs d
theorem s_3 (w : Nat) (xs : List D) (d : D) : wo (stoF w (.int 3) d (w + 1) (.list xs)) P = (3 < xs.length ∧ P (.list (xs.set 3 d))) := s_nat w 3 xs d
theorem s_4 (w : Nat) (xs : List D) (d : D) : wo (stoF w (.int 4) d (w + 1) (.list xs)) P = (4 < xs.length ∧ P (.list (xs.set 4 d))) := s_nat w 4 xs d
theorem s_5 (w : Nat) (xs : List D) (d : D) : wo (stoF w (.int 5) d (w + 1) (.list xs)) P = (5 < xs.length ∧ P (.list (xs.set 5 d))) := s_nat w 5 xs d
theorem a_list (w : Nat) (xs : List D) (d : D) : wo (appF w d (w + 1) (.list xs)) P = (xs.length < sline ∧ P (.list (xs ++ [d]))) := by
  unfold appF
  simp only [true_and, wo_ite, wo_some]
theorem e_list (xs ys : List D) : wo (extF (.list ys) 1 (.list xs)) P = (xs.length + ys.length ≤ sline ∧ P (.list (xs ++ ys))) := by
  unfold extF
  simp only [true_and, wo_ite, wo_some]
theorem m_reverse (xs : List D) : wo (mmF .reverse [] 1 (.list xs)) P = P (.list xs.reverse) := by with_unfolding_all rfl
theorem m_clear (xs : List D) : wo (mmF .clear [] 1 (.list xs)) P = P (.list []) := by with_unfolding_all rfl
theorem g_add (i j : Int) : wo (augF .Add (.int i) (.int j)) P = P (.int (i + j)) := by with_unfolding_all rfl
theorem g_sub (i j : Int) : wo (augF .Sub (.int i) (.int j)) P = P (.int (i - j)) := by with_unfolding_all rfl
/-! built-ins -/
theorem f_lenl (xs : List D) : wo (biD .len [.list xs]) P = P (.int xs.length) := by with_unfolding_all rfl
theorem f_lent (xs : List D) : wo (biD .len [.tuple xs]) P = P (.int xs.length) := by with_unfolding_all rfl
theorem f_lens (x : Str) : wo (biD .len [.str x]) P = (x.length ≤ sline ∧ P (.int x.length)) := by
  show wo (if x.length ≤ sline then _ else none) P = _
  rw [wo_ite]; with_unfolding_all rfl
theorem f_abs (i : Int) : wo (biD .abs [.int i]) P = P (.int (if i < 0 then -i else i)) := by with_unfolding_all rfl
theorem f_max (i j : Int) : wo (biD .max2 [.int i, .int j]) P = P (.int (if j > i then j else i)) := by with_unfolding_all rfl
theorem f_min (i j : Int) : wo (biD .min2 [.int i, .int j]) P = P (.int (if j < i then j else i)) := by with_unfolding_all rfl
theorem f_intb (b : Bool) : wo (biD .int1 [.bool b]) P = P (.int (if b then 1 else 0)) := by with_unfolding_all rfl
theorem f_int (i : Int) : wo (biD .int1 [.int i]) P = P (.int i) := by with_unfolding_all rfl
theorem toBools_map : ∀ bs : List Bool, toBools (bs.map PyData.bool) = some bs
  | [] => rfl
  | x :: xs => by rw [List.map_cons, toBools, toBools_map xs]; rfl
theorem f_all (bs : List Bool) : wo (biD .all1 [.list (bs.map .bool)]) P = P (.bool (bs.all id)) := by
  show wo ((toBools (bs.map PyData.bool)).map fun bs => PyData.bool (bs.all id)) P = _
  rw [toBools_map]; with_unfolding_all rfl
theorem f_any (bs : List Bool) : wo (biD .any1 [.list (bs.map .bool)]) P = P (.bool (bs.any id)) := by
  show wo ((toBools (bs.map PyData.bool)).map fun bs => PyData.bool (bs.any id)) P = _
  rw [toBools_map]; with_unfolding_all rfl
theorem f_max3 (i j k : Int) : wo (biD .max3 [.int i, .int j, .int k]) P = P (.int (if (if i < j then j else i) < k then k else (if i < j then j else i))) := by with_unfolding_all rfl
theorem f_min3 (i j k : Int) : wo (biD .min3 [.int i, .int j, .int k]) P = P (.int (if k < (if j < i then j else i) then k else (if j < i then j else i))) := by with_unfolding_all rfl
theorem f_divmod (i j : Int) : wo (biD .divmod2 [.int i, .int j]) P = ((0 < j ∧ j < 1073741824) ∧ P (.tuple [.int (i / j), .int (i % j)])) := by
  show wo (if 0 < j ∧ j < 1073741824 then _ else none) P = _
  rw [wo_ite, wo_some]
theorem f_strs (x : Str) : wo (biD .str1 [.str x]) P = P (.str x) := by with_unfolding_all rfl
theorem f_tupl (xs : List D) : wo (biD .tuple1 [.list xs]) P = P (.tuple xs) := by with_unfolding_all rfl
theorem f_tupt (xs : List D) : wo (biD .tuple1 [.tuple xs]) P = P (.tuple xs) := by with_unfolding_all rfl
theorem f_lstl (xs : List D) : wo (biD .list1 [.list xs]) P = P (.list xs) := by with_unfolding_all rfl
theorem f_lstt (xs : List D) : wo (biD .list1 [.tuple xs]) P = P (.list xs) := by with_unfolding_all rfl
theorem f_isa (ts : List String) (d : D) : wo (biD (.isinst ts) [d]) P = P (.bool (ts.any (isA d))) := by cases d <;> with_unfolding_all rfl
theorem isA_ll (xs : List D) : isA (.list xs) "list" = true := by rfl
theorem isA_ss (x : Str) : isA (.str x) "str" = true := by rfl
theorem isA_tt (xs : List D) : isA (.tuple xs) "tuple" = true := by rfl
/-- what repr tells of -/
def repOk (d : D) : Prop := d.showable = true ∧ d.shown.length ≤ sline ∧ d.depth ≤ 60
theorem f_repr (d : D) : wo (biD .repr1 [d]) P = (repOk d ∧ P (.str d.shown)) := by
  have e : biD .repr1 [d] = if (d.showable && decide (d.shown.length ≤ sline) && decide (d.depth ≤ 60)) = true then some (.str d.shown) else none := by cases d <;> with_unfolding_all rfl
  rw [e, wo_bite, wo_some]
  congr 1
  unfold repOk
  simp only [Bool.and_eq_true, decide_eq_true_eq, and_assoc]
theorem f_str (i : Int) : wo (biD .str1 [.int i]) P = (i.natAbs.log2 < 1920 ∧ P (.str (toString i))) := by
  show wo (if i.natAbs.log2 < 1920 then _ else none) P = _
  rw [wo_ite]; with_unfolding_all rfl
theorem toStrs_map : ∀ ss : List Str, toStrs (ss.map PyData.str) = some ss
  | [] => rfl
  | x :: xs => by rw [List.map_cons, toStrs, toStrs_map xs]; with_unfolding_all rfl
theorem f_zfill (x : Str) (i : Int) : wo (meD .zfill (.str x) [.int i]) P = ((0 ≤ i ∧ i ≤ 1000) ∧ P (.str (Txt.zfill x i))) := by
  show wo (if 0 ≤ i ∧ i ≤ 1000 then _ else none) P = _
  rw [wo_ite]; with_unfolding_all rfl
theorem f_join (sep : Str) (ss : List Str) : wo (meD .join (.str sep) [.list (ss.map PyData.str)]) P = (joinLen sep ss ≤ sline ∧ P (.str (Txt.join sep ss))) := by
  show wo ((toStrs (ss.map PyData.str)).bind fun ss => if joinLen sep ss ≤ sline then some (.str (Txt.join sep ss)) else none) P = _
  rw [toStrs_map, wo_bind, wo_some, wo_ite]; with_unfolding_all rfl
theorem sline_num : sline = 16777216 := by with_unfolding_all rfl
theorem eqv_ss (x y : Str) : PyData.eqv (.str x) (.str y) = decide (x = y) := by simp only [PyData.eqv]; by_cases h : x = y <;> simp [h]
theorem eqv_ii (x y : Int) : PyData.eqv (.int x) (.int y) = decide (x = y) := by simp only [PyData.eqv]; by_cases h : x = y <;> simp [h]
theorem toInts_map : ∀ ns : List Int, toInts (ns.map PyData.int) = some ns
  | [] => rfl
  | x :: xs => by rw [List.map_cons, toInts, toInts_map xs]; rfl
theorem f_minD (is : List Int) (d : Int) : wo (biD .minD [.list (is.map .int), .int d]) P = P (.int (minI d is)) := by
  show wo ((toInts (is.map PyData.int)).map fun is => PyData.int (minI d is)) P = _
  rw [toInts_map]; with_unfolding_all rfl
theorem f_maxD (is : List Int) (d : Int) : wo (biD .maxD [.list (is.map .int), .int d]) P = P (.int (maxI d is)) := by
  show wo ((toInts (is.map PyData.int)).map fun is => PyData.int (maxI d is)) P = _
  rw [toInts_map]; with_unfolding_all rfl
theorem f_sorted (ns : List Int) : wo (biD .sorted1 [.list (ns.map .int)]) P = P (.list ((sortD ns).map .int)) := by
  show wo (srtD (ns.map PyData.int)) P = _
  unfold srtD
  rw [toInts_map]; with_unfolding_all rfl
theorem f_srtK (k : Ky) (xs : List D) : wo (biD (.srtK k) [.list xs]) P = (xs.all (kyOk k) = true ∧ P (.list (xs.mergeSort (PySem.W.dataLe false (kyD k))))) := by
  show wo (if xs.all (kyOk k) = true then some _ else none) P = _
  rw [wo_ite, wo_some]
theorem f_sortR (xs : List D) : wo (biD .sortedR [.list xs]) P = (srtOk xs = true ∧ P (.list (xs.mergeSort (PySem.W.dataLe true fun d => d)))) := by
  show wo (if srtOk xs = true then some _ else none) P = _
  rw [wo_ite, wo_some]
theorem f_max1 (a : Int) (ns : List Int) : wo (biD .max1 [.list ((a :: ns).map .int)]) P = P (.int (maxI a (a :: ns))) := by
  show wo ((toInts ((a :: ns).map PyData.int)).bind fun is => match is with | [] => none | a :: r => some (PyData.int (maxI a (a :: r)))) P = _
  rw [toInts_map]; with_unfolding_all rfl
theorem f_min1 (a : Int) (ns : List Int) : wo (biD .min1 [.list ((a :: ns).map .int)]) P = P (.int (minI a (a :: ns))) := by
  show wo ((toInts ((a :: ns).map PyData.int)).bind fun is => match is with | [] => none | a :: r => some (PyData.int (minI a (a :: r)))) P = _
  rw [toInts_map]; with_unfolding_all rfl
theorem f_lenset (ns : List Int) : wo (biD .lenSet [.list (ns.map .int)]) P = ((ns.Nodup ∧ ns.length ≤ 4000) ∧ P (.int ns.length)) := by
  show wo ((toInts (ns.map PyData.int)).bind fun is => if is.Nodup ∧ is.length ≤ 4000 then some (PyData.int is.length) else none) P = _
  rw [toInts_map, wo_bind, wo_some, wo_ite, wo_some]
theorem f_lrg (j : Int) : wo (biD .listRange [.int j]) P = ((-16777216 ≤ j ∧ j ≤ 16777216) ∧ P (.list ((List.range j.toNat).map fun (k : Nat) => .int (k : Int)))) := by
  show wo (if -16777216 ≤ j ∧ j ≤ 16777216 then some _ else none) P = _
  rw [wo_ite, wo_some]
theorem f_lrg2 (i j : Int) : wo (biD .listRange [.int i, .int j]) P = ((-8000000 ≤ i ∧ i ≤ 8000000 ∧ -8000000 ≤ j ∧ j ≤ 8000000) ∧ P (.list ((List.range (j - i).toNat).map fun (k : Nat) => .int (i + (k : Int))))) := by
  show wo (if -8000000 ≤ i ∧ i ≤ 8000000 ∧ -8000000 ≤ j ∧ j ≤ 8000000 then some _ else none) P = _
  rw [wo_ite, wo_some]
theorem f_dict (ds : List D) : wo (biD .dict1 [.list ds]) P = wo (pairT ds) fun ps => P (.dict (ps.foldl (fun m p => mrgD p.1 p.2 m) [])) := by
  show wo ((pairT ds).bind fun ps => some (PyData.dict (ps.foldl (fun m p => mrgD p.1 p.2 m) []))) P = _
  simp only [wo_bind, wo_some]
theorem f_sset (ns : List Int) : wo (biD .sortedSet [.list (ns.map PyData.int)]) P = (ns.length < 4000 ∧ P (.list ((sortI ns).map PyData.int))) := by
  show wo ((toInts (ns.map PyData.int)).bind fun is => if is.length < 4000 then some (.list ((sortI is).map .int)) else none) P = _
  rw [toInts_map, wo_bind, wo_some, wo_ite, wo_some]
/-! walks, slices -/
theorem q_list (xs : List D) (R : List D → Prop) : wo (seqL (.list xs)) R = R xs := by with_unfolding_all rfl
theorem q_tup (xs : List D) (R : List D → Prop) : wo (seqL (.tuple xs)) R = R xs := by with_unfolding_all rfl
theorem q_enl (xs : List D) (R : List D → Prop) : wo (enumL (.list xs)) R = R (xs.zipIdx.map fun p => .tuple [.int p.2, p.1]) := by with_unfolding_all rfl
theorem q_ent (xs : List D) (R : List D → Prop) : wo (enumL (.tuple xs)) R = R (xs.zipIdx.map fun p => .tuple [.int p.2, p.1]) := by with_unfolding_all rfl
theorem q_revl (xs : List D) (R : List D → Prop) : wo (revL (.list xs)) R = R xs.reverse := by with_unfolding_all rfl
theorem q_revt (xs : List D) (R : List D → Prop) : wo (revL (.tuple xs)) R = R xs.reverse := by with_unfolding_all rfl
theorem l_list (xs : List D) (lo hi : Option Int) : wo (slcD (.list xs) lo hi) P = P (.list (cut xs lo hi)) := by with_unfolding_all rfl
theorem l_tup (xs : List D) (lo hi : Option Int) : wo (slcD (.tuple xs) lo hi) P = P (.tuple (cut xs lo hi)) := by with_unfolding_all rfl
theorem l_str (x : Str) (lo hi : Option Int) : wo (slcD (.str x) lo hi) P = (x.length ≤ sline ∧ P (.str (L2.cutS x lo hi))) := by
  show wo (if x.length ≤ sline then _ else none) P = _
  rw [wo_ite]; with_unfolding_all rfl
theorem y_by2 (x y z : D) : wo (by2D (.list [x, y, z])) P = P (.list [x, z]) := by with_unfolding_all rfl
theorem r_tup (xs : List D) : wo (revD (.tuple xs)) P = P (.tuple xs.reverse) := by with_unfolding_all rfl
theorem q_zll (xs ys : List D) (R : List D → Prop) : wo (zipK (.list xs) (.list ys)) R = R ((xs.zip ys).map fun p => .tuple [p.1, p.2]) := by with_unfolding_all rfl
theorem q_ztt (xs ys : List D) (R : List D → Prop) : wo (zipK (.tuple xs) (.tuple ys)) R = R ((xs.zip ys).map fun p => .tuple [p.1, p.2]) := by with_unfolding_all rfl
theorem q_zsl (xs ys : List D) (R : List D → Prop) : wo (zipKS (.list xs) (.list ys)) R = (xs.length = ys.length ∧ R ((xs.zip ys).map fun p => .tuple [p.1, p.2])) := by
  show wo (if xs.length = ys.length then zipL (.list xs) (.list ys) else none) R = _
  rw [wo_ite]; with_unfolding_all rfl
theorem q_zst (xs ys : List D) (R : List D → Prop) : wo (zipKS (.tuple xs) (.tuple ys)) R = (xs.length = ys.length ∧ R ((xs.zip ys).map fun p => .tuple [p.1, p.2])) := by
  show wo (if xs.length = ys.length then zipL (.tuple xs) (.tuple ys) else none) R = _
  rw [wo_ite]; with_unfolding_all rfl
theorem r_list (xs : List D) : wo (revD (.list xs)) P = P (.list xs.reverse) := by with_unfolding_all rfl
theorem wrng_0 (j : Int) (R : List D → Prop) : wrng 0 j R = ((-4611686018427387904 ≤ j ∧ j < 4611686018427387904) ∧ R ((List.range j.toNat).map fun (k : Nat) => .int (k : Int))) := by
  unfold wrng rangeL
  rw [wo_ite, wo_some]
  have e : (2 : Int) ^ 62 = 4611686018427387904 := by decide
  rw [e]
  congr 1
  · apply propext; omega
  · rw [show j - 0 = j by omega]
    congr 2
    funext k
    congr 1
    omega
theorem wrng_2 (i j : Int) (R : List D → Prop) : wrng i j R = ((-4611686018427387904 ≤ i ∧ i < 4611686018427387904 ∧ -4611686018427387904 ≤ j ∧ j < 4611686018427387904) ∧ R ((List.range (j - i).toNat).map fun (k : Nat) => .int (i + (k : Int)))) := by
  unfold wrng rangeL
  rw [wo_ite, wo_some]
  have e : (2 : Int) ^ 62 = 4611686018427387904 := by decide
  rw [e]
end
theorem frOk_int (fr : Bool) (m : Nat) (i : Int) : frOk fr m (.int i) = true := by with_unfolding_all rfl
theorem frOk_str (fr : Bool) (m : Nat) (x : Str) : frOk fr m (.str x) = true := by with_unfolding_all rfl
theorem frOk_bool (fr : Bool) (m : Nat) (x : Bool) : frOk fr m (.bool x) = true := by with_unfolding_all rfl
theorem frOk_none (fr : Bool) (m : Nat) : frOk fr m .none = true := by with_unfolding_all rfl
theorem frOk_1 (d : D) : frOk true 1 d = true := by simp [frOk]
end Pv

/-! PvR: how long a shown datum is; texts. -/
namespace Pv
open PySem
mutual
/-- a bound of what is shown -/
def rsz : D → Nat
  | .none => 4
  | .bool _ => 5
  | .int i => i.natAbs.log2 + 2
  | .str x => 10 * x.length + 2
  | .list xs => rszs xs + 2
  | .tuple xs => rszs xs + 3
  | .dict kvs => rszk kvs + 2
def rszs : List D → Nat
  | [] => 0
  | x :: xs => rsz x + 2 + rszs xs
def rszk : List (D × D) → Nat
  | [] => 0
  | (k, v) :: r => rsz k + rsz v + 4 + rszk r
end
mutual
/-- signs below a bound, numbers that can be shown -/
def shOk : D → Prop
  | .none => True
  | .bool _ => True
  | .int i => i.natAbs.log2 < 1920
  | .str x => ∀ c ∈ x.cps.toList, c < 16 ^ 8
  | .list xs => shOks xs
  | .tuple xs => shOks xs
  | .dict kvs => shOkk kvs
def shOks : List D → Prop
  | [] => True
  | x :: xs => shOk x ∧ shOks xs
def shOkk : List (D × D) → Prop
  | [] => True
  | (k, v) :: r => (shOk k ∧ shOk v) ∧ shOkk r
end
theorem join_len (sep : Str) : ∀ texts : List Str, (Str.join sep texts).length ≤ (texts.map fun t => t.length + sep.length).sum
  | [] => Nat.zero_le _
  | [x] => by
    show x.length ≤ _
    simp
  | x :: y :: r => by
    have h := join_len sep (y :: r)
    show (x ++ sep ++ Str.join sep (y :: r)).length ≤ _
    rw [strLen_append, strLen_append, List.map_cons, List.sum_cons]
    omega
theorem textFrom_le : ∀ (ts : List Str) (k : Nat) (acc : Str), (textFrom k acc ts).length ≤ acc.length + (ts.map fun t => t.length + 2).sum
  | [], k, acc => by show acc.length ≤ _; omega
  | t :: r, k, acc => by
    have h := textFrom_le r (k + 1) (acc ++ (if k > 0 then ", " else "" : String) ++ t)
    have e : (acc ++ (if k > 0 then ", " else "" : String) ++ t).length ≤ acc.length + 2 + t.length := by
      rw [strLen_append, strLen_append]
      split
      · have : (((", " : String) : Str)).length = 2 := rfl
        omega
      · have : ((("" : String) : Str)).length = 0 := rfl
        omega
    show (textFrom (k + 1) _ r).length ≤ _
    rw [List.map_cons, List.sum_cons]
    omega
mutual
theorem shown_le : ∀ d : D, shOk d → d.shown.length ≤ rsz d
  | .none, _ => by simp only [PyData.shown, rsz]; decide
  | .bool b, _ => by cases b <;> simp only [PyData.shown, rsz] <;> decide
  | .int i, h => by
    have := int_text_length_le (a := i) (k := i.natAbs.log2 + 1) (Nat.succ_pos _) (Nat.lt_succ_self _)
    show (Str.ofString (toString i)).length ≤ i.natAbs.log2 + 2
    rw [ofString_length]
    exact this
  | .str x, h => by
    simp only [PyData.shown, rsz]
    exact StrLaws.reprText_len x (by simpa [shOk] using h)
  | .list xs, h => by
    simp only [PyData.shown, rsz]
    have h1 := showns_le xs (by simpa [shOk] using h)
    have h2 := textFrom_le (PyData.shownAll xs) 0 "["
    have e1 : ((("[" : String) : Str)).length = 1 := rfl
    have e2 : ((("]" : String) : Str)).length = 1 := rfl
    show (textFrom 0 "[" (PyData.shownAll xs) ++ ("]" : String)).length ≤ _
    rw [strLen_append]
    omega
  | .tuple xs, h => by
    simp only [PyData.shown, rsz]
    have h1 := showns_le xs (by simpa [shOk] using h)
    have h2 := join_len ", " (PyData.shownAll xs)
    have e1 : ((("(" : String) : Str)).length = 1 := rfl
    have e2 : (((", " : String) : Str)).length = 2 := rfl
    unfold tupleText
    rw [strLen_append, strLen_append]
    have e3 : (((if (PyData.shownAll xs).length == 1 then ",)" else ")" : String) : Str)).length ≤ 2 := by split <;> decide
    rw [e2] at h2
    omega
  | .dict kvs, h => by
    simp only [PyData.shown, rsz]
    have h1 := shownk_le kvs (by simpa [shOk] using h)
    have h2 := join_len ", " (PyData.shownKv kvs)
    have e1 : ((("{" : String) : Str)).length = 1 := rfl
    have e3 : (((", " : String) : Str)).length = 2 := rfl
    have e2 : ((("}" : String) : Str)).length = 1 := rfl
    unfold dictText
    rw [strLen_append, strLen_append]
    rw [e3] at h2
    omega
theorem shownk_le : ∀ kvs : List (D × D), shOkk kvs → ((PyData.shownKv kvs).map fun t => t.length + 2).sum ≤ rszk kvs
  | [], _ => by simp [PyData.shownKv, rszk]
  | (k, v) :: r, h => by
    simp only [PyData.shownKv, rszk, List.map_cons, List.sum_cons]
    obtain ⟨⟨a, b⟩, c⟩ : (shOk k ∧ shOk v) ∧ shOkk r := by simpa [shOkk] using h
    have h1 := shown_le k a
    have h2 := shown_le v b
    have h3 := shownk_le r c
    have e : (((": " : String) : Str)).length = 2 := rfl
    rw [strLen_append, strLen_append]
    omega
theorem showns_le : ∀ xs : List D, shOks xs → ((PyData.shownAll xs).map fun t => t.length + 2).sum ≤ rszs xs
  | [], _ => by simp [PyData.shownAll, rszs]
  | x :: xs, h => by
    simp only [PyData.shownAll, rszs, List.map_cons, List.sum_cons]
    obtain ⟨a, b⟩ : shOk x ∧ shOks xs := by simpa [shOks] using h
    have h1 := shown_le x a
    have h2 := showns_le xs b
    omega
end
mutual
theorem shOk_sh : ∀ d : D, shOk d → d.showable = true
  | .none, _ => by simp [PyData.showable]
  | .bool b, _ => by simp [PyData.showable]
  | .int i, h => by simp only [shOk] at h; simp [PyData.showable, h]
  | .str x, h => by simp [PyData.showable]
  | .list xs, h => by simp only [PyData.showable]; exact shOks_sh xs (by simpa [shOk] using h)
  | .tuple xs, h => by simp only [PyData.showable]; exact shOks_sh xs (by simpa [shOk] using h)
  | .dict kvs, h => by simp only [PyData.showable]; exact shOkk_sh kvs (by simpa [shOk] using h)
theorem shOks_sh : ∀ xs : List D, shOks xs → PyData.showableAll xs = true
  | [], _ => by simp [PyData.showableAll]
  | x :: xs, h => by
    obtain ⟨a, b⟩ : shOk x ∧ shOks xs := by simpa [shOks] using h
    simp [PyData.showableAll, shOk_sh x a, shOks_sh xs b]
theorem shOkk_sh : ∀ kvs : List (D × D), shOkk kvs → PyData.showableKv kvs = true
  | [], _ => by simp [PyData.showableKv]
  | (k, v) :: r, h => by
    obtain ⟨⟨a, b⟩, c⟩ : (shOk k ∧ shOk v) ∧ shOkk r := by simpa [shOkk] using h
    simp [PyData.showableKv, shOk_sh k a, shOk_sh v b, shOkk_sh r c]
end
theorem repOk_of {d : D} (h : shOk d) (hs : rsz d ≤ sline) (hd : d.depth ≤ 60) : repOk d :=
  ⟨shOk_sh d h, Nat.le_trans (shown_le d h) hs, hd⟩
/-! of lists of one kind -/
theorem shOks_iff : ∀ xs : List D, shOks xs ↔ ∀ x ∈ xs, shOk x
  | [] => by simp [shOks]
  | x :: xs => by simp [shOks, shOks_iff xs]
theorem rszs_le {n : Nat} : ∀ {xs : List D}, (∀ x ∈ xs, rsz x ≤ n) → rszs xs ≤ (n + 2) * xs.length
  | [], _ => by simp [rszs]
  | x :: xs, h => by
    have h1 := h x (by simp)
    have h2 := rszs_le (n := n) (xs := xs) fun y hy => h y (by simp [hy])
    simp only [rszs, List.length_cons, Nat.mul_succ]
    omega
theorem depthAll_le {n : Nat} : ∀ {xs : List D}, (∀ x ∈ xs, x.depth ≤ n) → PyData.depthAll xs ≤ n
  | [], _ => by simp [PyData.depthAll]
  | x :: xs, h => by
    simp only [PyData.depthAll]
    have h1 := h x (by simp)
    have h2 := depthAll_le (n := n) (xs := xs) fun y hy => h y (by simp [hy])
    omega
theorem plainAll_of : ∀ {xs : List D}, (∀ x ∈ xs, PyData.plain x = true) → PyData.plainAll xs = true
  | [], _ => rfl
  | x :: xs, h => by
    simp only [PyData.plainAll, Bool.and_eq_true]
    exact ⟨h x (by simp), plainAll_of fun y hy => h y (by simp [hy])⟩
theorem log2_lt {i : Int} {k : Nat} (h : i.natAbs < 2 ^ (k + 1)) : i.natAbs.log2 ≤ k := by
  by_cases z : i.natAbs = 0
  · rw [z, Nat.log2_zero]; omega
  · have := (Nat.log2_lt z).mpr h
    omega
theorem join_chars : ∀ cs : List Nat, Txt.join "" (cs.map fun c => (⟨#[c]⟩ : Str)) = ⟨cs.toArray⟩
  | [] => rfl
  | [c] => rfl
  | c :: d :: r => by
    have h := join_chars (d :: r)
    unfold Txt.join at h ⊢
    rw [StrLaws.glued_eq_join] at h ⊢
    show (⟨#[c]⟩ : Str) ++ ("" : String) ++ Str.join "" ((d :: r).map fun c => (⟨#[c]⟩ : Str)) = _
    rw [h]
    show (⟨#[c] ++ #[] ++ (d :: r).toArray⟩ : Str) = _
    simp
end Pv

namespace L01
open PySem Pv
abbrev G_MOST_MINUTE : Nat := 0
abbrev G_MOST_ORDER : Nat := 1
abbrev G_MOST_LETTERS : Nat := 2
abbrev G_LETTERS : Nat := 3
abbrev F_is_whole : Nat := 0
abbrev F_is_from_to : Nat := 1
abbrev F_is_minute : Nat := 2
abbrev F_is_order : Nat := 3
abbrev F_is_name : Nat := 4
abbrev F__law_draw : Nat := 5
abbrev F__law_number : Nat := 6
abbrev F__law_text : Nat := 7
abbrev F__law_whole : Nat := 8
abbrev F__law_named : Nat := 9
abbrev F__law_right : Nat := 10
abbrev F_law : Nat := 11
/-- thing -/
def B_is_whole_0 : Sts := .cons (.ret 0 (.bo .And (.cons (.bi (.isinst ["int"]) (.cons (.var 0) .nil)) (.cons (.not_ (.bi (.isinst ["bool"]) (.cons (.var 0) .nil))) .nil)))) .nil
def T_is_whole : Fd := ⟨1, [0], B_is_whole_0⟩
/-- thing least most -/
def B_is_from_to_0 : Sts := .cons (.ret 0 (.bo .And (.cons (.call F_is_whole 0 (.cons (.var 0) .nil) .nil [.ar 0]) (.cons (.cmp2 .LtE .LtE (.var 1) (.var 0) (.var 2)) .nil)))) .nil
def T_is_from_to : Fd := ⟨3, [0, 0, 0], B_is_from_to_0⟩
/-- thing -/
def B_is_minute_0 : Sts := .cons (.ret 0 (.call F_is_from_to 1 (.cons (.var 0) (.cons (.lit (.int 0)) (.cons (.glb G_MOST_MINUTE) .nil))) .nil [.ar 0, .ar 1, .ar 2])) .nil
def T_is_minute : Fd := ⟨1, [0], B_is_minute_0⟩
/-- thing -/
def B_is_order_0 : Sts := .cons (.ret 0 (.call F_is_from_to 1 (.cons (.var 0) (.cons (.neg (.glb G_MOST_ORDER)) (.cons (.glb G_MOST_ORDER) .nil))) .nil [.ar 0, .ar 1, .ar 2])) .nil
def T_is_order : Fd := ⟨1, [0], B_is_order_0⟩
/-- thing sign -/
def B_is_name_0t0 : Sts := .cons (.ret 0 (.lit ff)) .nil
def B_is_name_1 : Sts := .cons (.ret 0 (.bi .all1 (.cons (.comp [1] (.seq (.var 0)) (.nm 1) .nil (.cmp .In (.var 1) (.glb G_LETTERS))) .nil))) .nil
def B_is_name_0 : Sts := .cons (.ite (.bo .Or (.cons (.not_ (.bi (.isinst ["str"]) (.cons (.var 0) .nil))) (.cons (.not_ (.cmp2 .LtE .LtE (.lit (.int 1)) (.bi .len (.cons (.var 0) .nil)) (.glb G_MOST_LETTERS))) .nil))) B_is_name_0t0 .nil) B_is_name_1
def T_is_name : Fd := ⟨2, [0], B_is_name_0⟩
/-- _law_pen _law_many _law_at _law_cell _law_number_here _law_digit -/
def B__law_draw_0t2 : Sts := .cons (.ret 0 (.var 5)) .nil
def B__law_draw_0t1 : Sts := .cons (.sto 0 0 (.lit (.int 2)) (.bin .FloorDiv (.idx (.own 0) (.lit (.int 2))) (.var 1))) B__law_draw_0t2
def B__law_draw_0t0 : Sts := .cons (.asg 0 5 (.bin .Mod (.idx (.own 0) (.lit (.int 2))) (.var 1))) B__law_draw_0t1
def B__law_draw_4t0 : Sts := .cons (.asg 0 3 (.idx (.idx (.own 0) (.lit (.int 0))) (.bin .Mod (.var 2) (.bi .len (.cons (.idx (.own 0) (.lit (.int 0))) .nil))))) .nil
def B__law_draw_5t1 : Sts := .cons (.ret 0 (.bin .Mod (.bi .abs (.cons (.var 3) .nil)) (.var 1))) .nil
def B__law_draw_5t0 : Sts := .cons (.sto 0 0 (.lit (.int 2)) (.bin .FloorDiv (.bi .abs (.cons (.var 3) .nil)) (.var 1))) B__law_draw_5t1
def B__law_draw_8 : Sts := .cons (.ret 0 (.bin .Mod (.bin .FloorDiv (.var 4) (.lit (.int 32))) (.var 1))) .nil
def B__law_draw_7 : Sts := .cons (.asg 0 4 (.bin .Mod (.bin .Pow (.bin .Add (.bin .Mult (.var 4) (.bin .Add (.bin .Mult (.lit (.int 2)) (.var 2)) (.lit (.int 3)))) (.lit (.int 77003))) (.lit (.int 3))) (.lit (.int 2147483647)))) B__law_draw_8
def B__law_draw_6 : Sts := .cons (.asg 0 4 (.bin .Mod (.bin .Pow (.bin .Add (.bin .Add (.bin .Mod (.var 3) (.lit (.int 2147483629))) (.bin .Mult (.lit (.int 50021)) (.var 2))) (.lit (.int 7))) (.lit (.int 3))) (.lit (.int 2147483587)))) B__law_draw_7
def B__law_draw_5 : Sts := .cons (.ite (.bo .And (.cons (.cmp .Lt (.var 2) (.bi .len (.cons (.idx (.own 0) (.lit (.int 0))) .nil))) (.cons (.cmp .GtE (.bi .abs (.cons (.var 3) .nil)) (.bin .Pow (.lit (.int 10)) (.lit (.int 18)))) .nil))) B__law_draw_5t0 .nil) B__law_draw_6
def B__law_draw_4 : Sts := .cons (.ite (.cmp .NotEq (.idx (.own 0) (.lit (.int 0))) (.lst .nil)) B__law_draw_4t0 .nil) B__law_draw_5
def B__law_draw_3 : Sts := .cons (.asg 0 3 (.bin .Add (.bin .Mult (.lit (.int 90007)) (.var 2)) (.lit (.int 31)))) B__law_draw_4
def B__law_draw_2 : Sts := .cons (.sto 0 0 (.lit (.int 1)) (.bin .Add (.var 2) (.lit (.int 1)))) B__law_draw_3
def B__law_draw_1 : Sts := .cons (.asg 0 2 (.idx (.own 0) (.lit (.int 1)))) B__law_draw_2
def B__law_draw_0 : Sts := .cons (.ite (.cmp .Gt (.idx (.own 0) (.lit (.int 2))) (.lit (.int 0))) B__law_draw_0t0 .nil) B__law_draw_1
def T__law_draw : Fd := ⟨6, [1, 0], B__law_draw_0⟩
/-- _law_pen _law_near _law_far -/
def B__law_number_2 : Sts := .cons (.ret 0 (.idx (.lst (.cons (.var 1) (.cons (.var 1) (.cons (.var 2) (.cons (.bin .Sub (.lit (.int 0)) (.var 2)) (.cons (.call F__law_draw 2 (.cons (.own 0) (.cons (.lit (.int 100001)) .nil)) .nil [.ar 0, .ar 1]) (.cons (.bin .Sub (.call F__law_draw 2 (.cons (.own 0) (.cons (.lit (.int 11)) .nil)) .nil [.ar 0, .ar 1]) (.lit (.int 5))) .nil))))))) (.call F__law_draw 2 (.cons (.own 0) (.cons (.lit (.int 6)) .nil)) .nil [.ar 0, .ar 1]))) .nil
def B__law_number_1 : Sts := .cons (.asg 0 2 (.bin .Add (.bin .Mult (.call F__law_draw 2 (.cons (.own 0) (.cons (.bin .Pow (.lit (.int 10)) (.lit (.int 9))) .nil)) .nil [.ar 0, .ar 1]) (.bin .Pow (.bin .Pow (.lit (.int 10)) (.lit (.int 45))) (.lit (.int 2)))) (.call F__law_draw 2 (.cons (.own 0) (.cons (.bin .Pow (.lit (.int 10)) (.lit (.int 9))) .nil)) .nil [.ar 0, .ar 1]))) B__law_number_2
def B__law_number_0 : Sts := .cons (.asg 0 1 (.bin .Sub (.bin .Add (.idx (.lst (.cons (.lit (.int 0)) (.cons (.lit (.int 4)) (.cons (.neg (.lit (.int 4))) (.cons (.lit (.int 99999)) (.cons (.bin .Pow (.lit (.int 10)) (.lit (.int 30))) (.cons (.neg (.bin .Pow (.lit (.int 10)) (.lit (.int 30)))) .nil))))))) (.call F__law_draw 2 (.cons (.own 0) (.cons (.lit (.int 6)) .nil)) .nil [.ar 0, .ar 1])) (.call F__law_draw 2 (.cons (.own 0) (.cons (.lit (.int 3)) .nil)) .nil [.ar 0, .ar 1])) (.lit (.int 1)))) B__law_number_1
def T__law_number : Fd := ⟨3, [1], B__law_number_0⟩
/-- _law_pen _law_letters _law_signs _law_way _law_word _law_at _law_sign _law_k -/
def B__law_text_6t0 : Sts := .cons (.ret 0 (.var 4)) .nil
def B__law_text_7t0 : Sts := .cons (.ret 0 (.bin .Add (.bin .Add (.slc (.var 4) .no (.so (.var 5))) (.var 6)) (.slc (.var 4) (.so (.var 5)) .no))) .nil
def B__law_text_8t0 : Sts := .cons (.ret 0 (.bin .Add (.bin .Add (.slc (.var 4) .no (.so (.var 5))) (.var 6)) (.slc (.var 4) (.so (.bin .Add (.var 5) (.lit (.int 1)))) .no))) .nil
def B__law_text_9 : Sts := .cons (.ret 0 (.idx (.lst (.cons (.slc (.var 4) (.so (.lit (.int 1))) .no) (.cons (.bin .Add (.var 4) (.var 4)) .nil))) (.bin .Sub (.var 3) (.lit (.int 4))))) .nil
def B__law_text_8 : Sts := .cons (.ite (.cmp .Eq (.var 3) (.lit (.int 3))) B__law_text_8t0 .nil) B__law_text_9
def B__law_text_7 : Sts := .cons (.ite (.cmp .Eq (.var 3) (.lit (.int 2))) B__law_text_7t0 .nil) B__law_text_8
def B__law_text_6 : Sts := .cons (.ite (.cmp .Lt (.var 3) (.lit (.int 2))) B__law_text_6t0 .nil) B__law_text_7
def B__law_text_5 : Sts := .cons (.asg 0 6 (.idx (.var 2) (.call F__law_draw 2 (.cons (.own 0) (.cons (.bi .len (.cons (.var 2) .nil)) .nil)) .nil [.ar 0, .ar 1]))) B__law_text_6
def B__law_text_4 : Sts := .cons (.asg 0 5 (.call F__law_draw 2 (.cons (.own 0) (.cons (.bin .Add (.bi .len (.cons (.var 4) .nil)) (.lit (.int 1))) .nil)) .nil [.ar 0, .ar 1])) B__law_text_5
def B__law_text_3 : Sts := .cons (.asg 0 4 (.me .join (.lit (.str "")) (.cons (.comp [7] (.rng1 (.idx (.lst (.cons (.lit (.int 1)) (.cons (.lit (.int 8)) (.cons (.bin .Add (.lit (.int 1)) (.call F__law_draw 2 (.cons (.own 0) (.cons (.lit (.int 8)) .nil)) .nil [.ar 0, .ar 1])) .nil)))) (.call F__law_draw 2 (.cons (.own 0) (.cons (.lit (.int 3)) .nil)) .nil [.ar 0, .ar 1]))) (.nm 7) .nil (.idx (.var 1) (.call F__law_draw 2 (.cons (.own 0) (.cons (.lit (.int 26)) .nil)) .nil [.ar 0, .ar 1]))) .nil))) B__law_text_4
def B__law_text_2 : Sts := .cons (.asg 0 3 (.call F__law_draw 2 (.cons (.own 0) (.cons (.lit (.int 6)) .nil)) .nil [.ar 0, .ar 1])) B__law_text_3
def B__law_text_1 : Sts := .cons (.asg 0 2 (.lit (.str " !\"#$&'()*+,-./0123456789:;<=>?@ABCDEFGHIJKLMNOPQRSTUVWXYZ[\\]^_`abcdefghijklmnopqrstuvwxyz{|}~\n"))) B__law_text_2
def B__law_text_0 : Sts := .cons (.asg 0 1 (.lit (.str "abcdefghijklmnopqrstuvwxyz"))) B__law_text_1
def T__law_text : Fd := ⟨8, [1], B__law_text_0⟩
/-- _law_odd _law_least _law_most -/
def B__law_whole_0 : Sts := .cons (.ret 0 (.bo .And (.cons (.bi (.isinst ["int"]) (.cons (.var 0) .nil)) (.cons (.not_ (.bi (.isinst ["bool"]) (.cons (.var 0) .nil))) (.cons (.cmp2 .LtE .LtE (.var 1) (.var 0) (.var 2)) .nil))))) .nil
def T__law_whole : Fd := ⟨3, [0, 0, 0], B__law_whole_0⟩
/-- _law_odd _law_sign -/
def B__law_named_0t0 : Sts := .cons (.ret 0 (.lit ff)) .nil
def B__law_named_1 : Sts := .cons (.ret 0 (.cmp .Eq (.comp [1] (.seq (.var 0)) (.nm 1) (.cons (.cmp .NotIn (.var 1) (.lit (.str "abcdefghijklmnopqrstuvwxyz"))) .nil) (.var 1)) (.lst .nil))) .nil
def B__law_named_0 : Sts := .cons (.ite (.bo .Or (.cons (.not_ (.bi (.isinst ["str"]) (.cons (.var 0) .nil))) (.cons (.not_ (.cmp2 .LtE .LtE (.lit (.int 1)) (.bi .len (.cons (.var 0) .nil)) (.lit (.int 8)))) .nil))) B__law_named_0t0 .nil) B__law_named_1
def T__law_named : Fd := ⟨2, [0], B__law_named_0⟩
/-- _law_odd _law_kept _law_due _law_told _law_more -/
def B__law_right_4 : Sts := .cons (.ret 0 (.bo .And (.cons (.cmp .Eq (.bi .repr1 (.cons (.var 3) .nil)) (.bi .repr1 (.cons (.var 2) .nil))) (.cons (.cmp .Eq (.bi .repr1 (.cons (.var 4) .nil)) (.bi .repr1 (.cons (.var 2) .nil))) (.cons (.cmp .Eq (.bi .repr1 (.cons (.var 0) .nil)) (.var 1)) .nil))))) .nil
def B__law_right_3 : Sts := .cons (.asg 0 4 (.lst (.cons (.call F_is_minute 10 .nil (.cons (.var 0) .nil) [.ar 0]) (.cons (.call F_is_order 9 .nil (.cons (.var 0) .nil) [.ar 0]) (.cons (.call F_is_name 8 .nil (.cons (.var 0) .nil) [.ar 0]) .nil))))) B__law_right_4
def B__law_right_2 : Sts := .cons (.asg 0 3 (.lst (.cons (.call F_is_minute 7 (.cons (.var 0) .nil) .nil [.ar 0]) (.cons (.call F_is_order 6 (.cons (.var 0) .nil) .nil [.ar 0]) (.cons (.call F_is_name 5 (.cons (.var 0) .nil) .nil [.ar 0]) .nil))))) B__law_right_3
def B__law_right_1 : Sts := .cons (.asg 0 2 (.lst (.cons (.call F__law_whole 4 (.cons (.var 0) (.cons (.lit (.int 0)) (.cons (.lit (.int 99999)) .nil))) .nil [.ar 0, .ar 1, .ar 2]) (.cons (.call F__law_whole 4 (.cons (.var 0) (.cons (.neg (.lit (.int 4))) (.cons (.lit (.int 4)) .nil))) .nil [.ar 0, .ar 1, .ar 2]) (.cons (.call F__law_named 3 (.cons (.var 0) .nil) .nil [.ar 0]) .nil))))) B__law_right_2
def B__law_right_0 : Sts := .cons (.asg 0 1 (.bi .repr1 (.cons (.var 0) .nil))) B__law_right_1
def T__law_right : Fd := ⟨5, [0], B__law_right_0⟩
/-- _law_script _law_pen _law_turn _law_odd _law_wrapped -/
def B_law_1b2t0 : Sts := .cons (.ret 0 (.lit ff)) .nil
def B_law_1b2 : Sts := .cons (.ite (.bo .Or (.cons (.not_ (.call F__law_right 13 (.cons (.var 3) .nil) .nil [.ar 0])) (.cons (.not_ (.call F__law_right 13 (.cons (.var 4) .nil) .nil [.ar 0])) .nil))) B_law_1b2t0 .nil) .nil
def B_law_1b1 : Sts := .cons (.asg 0 4 (.idx (.lst (.cons (.var 3) (.cons (.var 3) (.cons (.tup (.cons (.var 3) .nil)) (.cons (.lst (.cons (.var 3) .nil)) (.cons (.dct (.cons (.lit (.str "a")) (.cons (.var 3) .nil))) (.cons (.bi .str1 (.cons (.var 3) .nil)) .nil))))))) (.call F__law_draw 2 (.cons (.own 1) (.cons (.lit (.int 6)) .nil)) .nil [.ar 0, .ar 1]))) B_law_1b2
def B_law_1b0 : Sts := .cons (.asg 0 3 (.idx (.lst (.cons (.call F__law_number 12 (.cons (.own 1) .nil) .nil [.ar 0]) (.cons (.call F__law_text 11 (.cons (.own 1) .nil) .nil [.ar 0]) .nil))) (.call F__law_draw 2 (.cons (.own 1) (.cons (.lit (.int 2)) .nil)) .nil [.ar 0, .ar 1]))) B_law_1b1
def B_law_2 : Sts := .cons (.ret 0 (.bi .all1 (.cons (.comp [3] (.seq (.tup (.cons (.lit PyData.none) (.cons (.lit tt) (.cons (.lit ff) (.cons (.lit (.int 0)) (.cons (.lit (.int 1)) (.cons (.lit (.str "")) (.cons (.lit (.str "port")) (.cons (.tup .nil) (.cons (.lst .nil) (.cons (.dct .nil) (.cons (.tup (.cons (.lit (.str "a")) (.cons (.lit (.int 1)) .nil))) .nil))))))))))))) (.nm 3) .nil (.call F__law_right 13 (.cons (.var 3) .nil) .nil [.ar 0])) .nil))) .nil
def B_law_1 : Sts := .cons (.for_ (.rng1 (.lit (.int 16))) (.nm 2) B_law_1b0) B_law_2
def B_law_0 : Sts := .cons (.asg 1 1 (.lst (.cons (.bi .list1 (.cons (.slc (.var 0) .no (.so (.lit (.int 63)))) .nil)) (.cons (.lit (.int 0)) (.cons (.lit (.int 0)) .nil))))) B_law_1
def T_law : Fd := ⟨5, [0], B_law_0⟩
def cG : List D := [(.int 99999), (.int 4), (.int 8), (.str "abcdefghijklmnopqrstuvwxyz")]
def prog : Pr := ⟨cG, 1000, [T_is_whole, T_is_from_to, T_is_minute, T_is_order, T_is_name, T__law_draw, T__law_number, T__law_text, T__law_whole, T__law_named, T__law_right, T_law]⟩
end L01

namespace L01
open PySem PySem.Spec PyProof.Rows L2 Pv
def top (i : Nat) : Stmt := PySem.Challenge.pw_ringorders_k01_minutes_orders_names_know.main.body.getD i (.Pass ⟨0, 0, 0, 0⟩)
def d_is_whole : DefS := ⟨"is_whole", "is_whole", top 5, ["thing"], ["thing"], []⟩
def d_is_from_to : DefS := ⟨"is_from_to", "is_from_to", top 6, ["thing", "least", "most"], ["thing", "least", "most"], []⟩
def d_is_minute : DefS := ⟨"is_minute", "is_minute", top 7, ["thing"], ["thing"], []⟩
def d_is_order : DefS := ⟨"is_order", "is_order", top 8, ["thing"], ["thing"], []⟩
def d_is_name : DefS := ⟨"is_name", "is_name", top 9, ["thing", "sign"], ["thing"], []⟩
def d__law_draw : DefS := ⟨"_law_draw", "_law_draw", top 11, ["_law_pen", "_law_many", "_law_at", "_law_cell", "_law_number_here", "_law_digit"], ["_law_pen", "_law_many"], []⟩
def d__law_number : DefS := ⟨"_law_number", "_law_number", top 12, ["_law_pen", "_law_near", "_law_far"], ["_law_pen"], []⟩
def d__law_text : DefS := ⟨"_law_text", "_law_text", top 13, ["_law_pen", "_law_letters", "_law_signs", "_law_way", "_law_word", "_law_at", "_law_sign", "_law_k"], ["_law_pen"], []⟩
def d__law_whole : DefS := ⟨"_law_whole", "_law_whole", top 14, ["_law_odd", "_law_least", "_law_most"], ["_law_odd", "_law_least", "_law_most"], []⟩
def d__law_named : DefS := ⟨"_law_named", "_law_named", top 15, ["_law_odd", "_law_sign"], ["_law_odd"], []⟩
def d__law_right : DefS := ⟨"_law_right", "_law_right", top 16, ["_law_odd", "_law_kept", "_law_due", "_law_told", "_law_more"], ["_law_odd"], []⟩
def d_law : DefS := ⟨"law", "law", top 17, ["_law_script", "_law_pen", "_law_turn", "_law_odd", "_law_wrapped"], ["_law_script"], []⟩
def DS : List DefS := [d_is_whole, d_is_from_to, d_is_minute, d_is_order, d_is_name, d__law_draw, d__law_number, d__law_text, d__law_whole, d__law_named, d__law_right, d_law]
def FM : List Fm := [⟨0, 1, [], [.ar 0]⟩, ⟨1, 3, [], [.ar 0, .ar 1, .ar 2]⟩, ⟨5, 2, [], [.ar 0, .ar 1]⟩, ⟨9, 1, [], [.ar 0]⟩, ⟨8, 3, [], [.ar 0, .ar 1, .ar 2]⟩, ⟨4, 1, [], [.ar 0]⟩, ⟨3, 1, [], [.ar 0]⟩, ⟨2, 1, [], [.ar 0]⟩, ⟨4, 0, ["thing"], [.ar 0]⟩, ⟨3, 0, ["thing"], [.ar 0]⟩, ⟨2, 0, ["thing"], [.ar 0]⟩, ⟨7, 1, [], [.ar 0]⟩, ⟨6, 1, [], [.ar 0]⟩, ⟨10, 1, [], [.ar 0]⟩, ⟨11, 1, [], [.ar 0]⟩]
def TX : Txt := ⟨fun _ => none, ["MOST_MINUTE", "MOST_ORDER", "MOST_LETTERS", "LETTERS"], ["is_whole", "is_from_to", "is_minute", "is_order", "is_name", "_law_draw", "_law_number", "_law_text", "_law_whole", "_law_named", "_law_right", "law"], ["isinstance", "int", "bool", "all", "str", "len", "abs", "range", "repr", "list"], FM, []⟩
theorem fm0 : FormOk DS ⟨0, 1, [], [.ar 0]⟩ := by
  refine form0 (d := d_is_whole) rfl rfl (fun us ws => match us, ws with | [u0], [] => [u0] | _, _ => []) fun kV doc pm an cdv ct us ws hu hw => ?_
  exact match us, hu with | [u0], _ => match ws, hw with | [], _ => ⟨rfl, ⟨rfl, trivial⟩⟩
theorem fm1 : FormOk DS ⟨1, 3, [], [.ar 0, .ar 1, .ar 2]⟩ := by
  refine form0 (d := d_is_from_to) rfl rfl (fun us ws => match us, ws with | [u0, u1, u2], [] => [u0, u1, u2] | _, _ => []) fun kV doc pm an cdv ct us ws hu hw => ?_
  exact match us, hu with | [u0, u1, u2], _ => match ws, hw with | [], _ => ⟨rfl, ⟨rfl, rfl, rfl, trivial⟩⟩
theorem fm2 : FormOk DS ⟨5, 2, [], [.ar 0, .ar 1]⟩ := by
  refine form0 (d := d__law_draw) rfl rfl (fun us ws => match us, ws with | [u0, u1], [] => [u0, u1] | _, _ => []) fun kV doc pm an cdv ct us ws hu hw => ?_
  exact match us, hu with | [u0, u1], _ => match ws, hw with | [], _ => ⟨rfl, ⟨rfl, rfl, trivial⟩⟩
theorem fm3 : FormOk DS ⟨9, 1, [], [.ar 0]⟩ := by
  refine form0 (d := d__law_named) rfl rfl (fun us ws => match us, ws with | [u0], [] => [u0] | _, _ => []) fun kV doc pm an cdv ct us ws hu hw => ?_
  exact match us, hu with | [u0], _ => match ws, hw with | [], _ => ⟨rfl, ⟨rfl, trivial⟩⟩
theorem fm4 : FormOk DS ⟨8, 3, [], [.ar 0, .ar 1, .ar 2]⟩ := by
  refine form0 (d := d__law_whole) rfl rfl (fun us ws => match us, ws with | [u0, u1, u2], [] => [u0, u1, u2] | _, _ => []) fun kV doc pm an cdv ct us ws hu hw => ?_
  exact match us, hu with | [u0, u1, u2], _ => match ws, hw with | [], _ => ⟨rfl, ⟨rfl, rfl, rfl, trivial⟩⟩
theorem fm5 : FormOk DS ⟨4, 1, [], [.ar 0]⟩ := by
  refine form0 (d := d_is_name) rfl rfl (fun us ws => match us, ws with | [u0], [] => [u0] | _, _ => []) fun kV doc pm an cdv ct us ws hu hw => ?_
  exact match us, hu with | [u0], _ => match ws, hw with | [], _ => ⟨rfl, ⟨rfl, trivial⟩⟩
theorem fm6 : FormOk DS ⟨3, 1, [], [.ar 0]⟩ := by
  refine form0 (d := d_is_order) rfl rfl (fun us ws => match us, ws with | [u0], [] => [u0] | _, _ => []) fun kV doc pm an cdv ct us ws hu hw => ?_
  exact match us, hu with | [u0], _ => match ws, hw with | [], _ => ⟨rfl, ⟨rfl, trivial⟩⟩
theorem fm7 : FormOk DS ⟨2, 1, [], [.ar 0]⟩ := by
  refine form0 (d := d_is_minute) rfl rfl (fun us ws => match us, ws with | [u0], [] => [u0] | _, _ => []) fun kV doc pm an cdv ct us ws hu hw => ?_
  exact match us, hu with | [u0], _ => match ws, hw with | [], _ => ⟨rfl, ⟨rfl, trivial⟩⟩
theorem fm8 : FormOk DS ⟨4, 0, ["thing"], [.ar 0]⟩ := by
  refine form0 (d := d_is_name) rfl rfl (fun us ws => match us, ws with | [], [w0] => [w0] | _, _ => []) fun kV doc pm an cdv ct us ws hu hw => ?_
  exact match us, hu with | [], _ => match ws, hw with | [w0], _ => ⟨rfl, ⟨rfl, trivial⟩⟩
theorem fm9 : FormOk DS ⟨3, 0, ["thing"], [.ar 0]⟩ := by
  refine form0 (d := d_is_order) rfl rfl (fun us ws => match us, ws with | [], [w0] => [w0] | _, _ => []) fun kV doc pm an cdv ct us ws hu hw => ?_
  exact match us, hu with | [], _ => match ws, hw with | [w0], _ => ⟨rfl, ⟨rfl, trivial⟩⟩
theorem fm10 : FormOk DS ⟨2, 0, ["thing"], [.ar 0]⟩ := by
  refine form0 (d := d_is_minute) rfl rfl (fun us ws => match us, ws with | [], [w0] => [w0] | _, _ => []) fun kV doc pm an cdv ct us ws hu hw => ?_
  exact match us, hu with | [], _ => match ws, hw with | [w0], _ => ⟨rfl, ⟨rfl, trivial⟩⟩
theorem fm11 : FormOk DS ⟨7, 1, [], [.ar 0]⟩ := by
  refine form0 (d := d__law_text) rfl rfl (fun us ws => match us, ws with | [u0], [] => [u0] | _, _ => []) fun kV doc pm an cdv ct us ws hu hw => ?_
  exact match us, hu with | [u0], _ => match ws, hw with | [], _ => ⟨rfl, ⟨rfl, trivial⟩⟩
theorem fm12 : FormOk DS ⟨6, 1, [], [.ar 0]⟩ := by
  refine form0 (d := d__law_number) rfl rfl (fun us ws => match us, ws with | [u0], [] => [u0] | _, _ => []) fun kV doc pm an cdv ct us ws hu hw => ?_
  exact match us, hu with | [u0], _ => match ws, hw with | [], _ => ⟨rfl, ⟨rfl, trivial⟩⟩
theorem fm13 : FormOk DS ⟨10, 1, [], [.ar 0]⟩ := by
  refine form0 (d := d__law_right) rfl rfl (fun us ws => match us, ws with | [u0], [] => [u0] | _, _ => []) fun kV doc pm an cdv ct us ws hu hw => ?_
  exact match us, hu with | [u0], _ => match ws, hw with | [], _ => ⟨rfl, ⟨rfl, trivial⟩⟩
theorem fm14 : FormOk DS ⟨11, 1, [], [.ar 0]⟩ := by
  refine form0 (d := d_law) rfl rfl (fun us ws => match us, ws with | [u0], [] => [u0] | _, _ => []) fun kV doc pm an cdv ct us ws hu hw => ?_
  exact match us, hu with | [u0], _ => match ws, hw with | [], _ => ⟨rfl, ⟨rfl, trivial⟩⟩
theorem fms_ok : ∀ fm ∈ TX.fms, FormOk DS fm := by
  intro fm h
  simp only [TX, FM, List.mem_cons, List.not_mem_nil, or_false] at h
  rcases h with rfl | rfl | rfl | rfl | rfl | rfl | rfl | rfl | rfl | rfl | rfl | rfl | rfl | rfl | rfl
  · exact fm0
  · exact fm1
  · exact fm2
  · exact fm3
  · exact fm4
  · exact fm5
  · exact fm6
  · exact fm7
  · exact fm8
  · exact fm9
  · exact fm10
  · exact fm11
  · exact fm12
  · exact fm13
  · exact fm14
theorem chk : Chk TX prog DS := chk_of rfl rfl (by kernel_rfl) fms_ok
abbrev R : PySem.W.OpenRow := PySem.W.OpenLaw.row PySem.Challenge.rw_ringorders_k01_minutes_orders_names_know
def fa : List He.Fa := faOf TX
def fn : List He.DefD := DS.map DefS.dd
def ts : List He.Tab := dTabs TX.gl prog.G
abbrev hk : PySem.W.Hook := Pv.hookY 4 fa fn ts (lamD TX.lam) (exT TX.gl prog.G TX.lam)
def ob (s : PySem.W.SharedT) : He.AlX := Pv.obsY 4 fa fn ts (lamD TX.lam) (exT TX.gl prog.G TX.lam) (HandSHeadRun.getT s)
theorem ob_eq (s : PySem.W.SharedT) : ob s = hk.obs s.abs := Pv.obsY_eq (HandSHeadRun.getT_eq s)
def loose0 : List Str := ["LETTERS", "MOST_LETTERS", "MOST_MINUTE", "MOST_ORDER", "_law_draw", "_law_named", "_law_number", "_law_right", "_law_text", "_law_whole", "is_from_to", "is_minute", "is_name", "is_order", "is_whole"]
def loose : List Str := loose0
theorem run0 (w : World) : HandSHeadRun.RunEq R (PySem.W.view R.prog [17]) hk ob 1320 loose w := by
  intro os
  kernel_rfl
end L01

namespace L01
open PySem Pv

local macro_rules | `(tactic| walk_at "pv") => `(tactic| simp only [↓wp_bind, ↓wp_ret, ↓wp_ofO, ↓wp_rdS, ↓wp_rdO, ↓wp_wr, ↓wp_valM, ↓wp_boolM, ↓wp_bad, ↓wp_opM, ↓woA_o1, ↓woA_o2, ↓woA_2o, ↓wo_f1, ↓wo_f2, ↓wp_v1, ↓wp_lit, ↓wp_var, ↓wp_own, ↓wp_frz, ↓wp_glb, ↓wp_kidx, ↓wp_kin, ↓wp_bin, ↓wp_neg, ↓wp_tst, ↓wp_boolV, ↓wp_not, ↓wp_bo, ↓wp_and_nil, ↓wp_or_nil, ↓wp_and_1, ↓wp_or_1, ↓wp_and_cons, ↓wp_or_cons, ↓wo_cmpF, ↓wp_cmp, ↓wp_cmp2, ↓wp_ife, ↓wvs_nil, ↓wvs_cons, ↓wp_tup, ↓wp_lst, ↓wp_evs_nil, ↓wp_evs_cons, ↓wp_idx, ↓wp_oe_no, ↓wint_int, ↓wp_oe_so, ↓wp_slc, ↓wp_rev, ↓wp_by2, ↓wp_bi, ↓woA_b1, ↓woA_b2, ↓woA_bo, ↓wp_me, ↓wp_call, ↓wp_comp, ↓wp_popE, ↓wp_popV, ↓wp_compO, ↓wol_ow, ↓wp_it_seq, ↓wp_it_rng1, ↓wp_it_rng2, ↓wp_it_enum, ↓wp_it_zip2, ↓wp_it_rev, ↓wp_nm, ↓wp_tp, ↓wp_tpl, ↓wp_tp_nil, ↓wp_tp_cons, ↓wp_W_lst, ↓wp_W_lst2, ↓wp_Ws_nil, ↓wp_Ws_cons, ↓wls_l, ↓wp_W_slc, ↓wp_W_rev, ↓wp_W_bi, ↓wp_W_add, ↓wp_W_comp, ↓wp_W_call, ↓wp_W_ife, ↓wp_vM, ↓wp_s_nil, ↓wp_asg0, ↓wp_asgW, ↓wp_unp, ↓wp_aug, ↓wp_sto0, ↓wp_stoW, ↓wp_app0, ↓wp_appW, ↓wp_mc_reverse, ↓wp_mc_clear, ↓wp_mc_extend, ↓wp_sfrz, ↓wp_exp, ↓wp_ret0, ↓wp_retW, ↓wp_reto, ↓wp_retn, ↓wp_ite, ↓wp_for, ↓wp_whl, ↓wp_brk, ↓wp_cnt, ↓wp_pas, ↓wp_ebad, ↓wp_sbad, ↓wdc_v, ↓wdc_o, ↓wp_dget, ↓wp_dget2, ↓woA_3, ↓woA_o3, ↓woA_b3, ↓wp_dct, ↓wp_it_zipS, ↓wp_par, ↓wp_tryN, ↓wp_parL_nil, ↓wp_parL_cons, ↓b_mult, ↓b_mulli, ↓c_isb, ↓c_isnb, ↓c_insg, ↓c_ninsg, ↓i_dict, ↓d_get1, ↓d_get2, ↓f_all, ↓f_any, ↓f_max3, ↓f_min3, ↓f_divmod, ↓f_strs, ↓f_sorted, ↓f_srtK, ↓f_sortR, ↓f_lenset, ↓f_lrg, ↓f_lrg2, ↓f_dict, ↓r_tup, ↓q_zll, ↓q_ztt, ↓q_zsl, ↓q_zst, ↓wo_some, ↓wv_val, ↓wb_bool, ↓wsh_sh, ↓wow_ow, ↓wif_t, ↓wif_f, ↓wif_d, ↓wif_n, ↓wif_and, ↓wif_or, ↓wnx_nx, ↓wnx_rt, ↓wnx_bk, ↓wnx_ct, ↓wtn_nx, ↓wtn_ct, ↓wtn_bk, ↓wtn_rt, ↓wrl_ow, ↓wfin_rt, ↓wfin_nx, ↓wp_forL_nil, ↓b_add, ↓b_muls, ↓b_sub, ↓b_mull, ↓b_mulr, ↓b_mul, ↓b_fdivp, ↓b_fdiv, ↓b_modp, ↓b_mod, ↓b_pow, ↓b_adds, ↓b_addl, ↓b_addt, ↓n_int, ↓c_eqi, ↓c_nei, ↓c_eqs, ↓c_nes, ↓c_lt, ↓c_le, ↓c_gt, ↓c_ge, ↓c_is, ↓c_isn, ↓c_int, ↓c_inl, ↓c_nint, ↓c_ninl, ↓i_list, ↓i_tup, ↓i_str, ↓wat_map, ↓wat_0, ↓wat_1, ↓wat_2, ↓wat_3, ↓wat_4, ↓wat_5, ↓wat_6, ↓wat_7, ↓wat_8, ↓s_0, ↓s_1, ↓s_2, ↓s_3, ↓s_4, ↓s_5, ↓a_list, ↓e_list, ↓m_reverse, ↓m_clear, ↓g_add, ↓g_sub, ↓f_lenl, ↓f_lent, ↓f_lens, ↓f_abs, ↓f_max, ↓f_min, ↓f_minD, ↓f_maxD, ↓f_zfill, ↓f_intb, ↓f_int, ↓f_tupl, ↓f_tupt, ↓f_lstl, ↓f_lstt, ↓f_isa, ↓f_repr, ↓f_str, ↓f_sset, ↓q_list, ↓q_tup, ↓q_enl, ↓q_ent, ↓q_revl, ↓q_revt, ↓l_list, ↓l_tup, ↓l_str, ↓r_list, ↓y_by2, ↓wrng_0, isA_ss, isA_ll, isA_tt, rootBi, freshBi, meT, sline_num, eqv_ss, eqv_ii, List.any_cons, List.any_nil, Bool.or_false, we_eq, wo_some, wsh_sh, wow_ow, wrl_ow, List.getElem?_cons_succ, List.getElem?_cons_zero, List.set_cons_succ, List.set_cons_zero, List.length_cons, List.length_nil, List.length_map, List.map_cons, List.map_nil, wif_t, wif_f, wnx_nx, wnx_rt, frOk_int, frOk_str, frOk_bool, frOk_none, frOk_1, true_and, and_true, fillS, slotOf, ownSl, backS, finO, List.filterMap_cons, List.filterMap_nil, id, wo_map, List.nodup_cons, List.nodup_nil, List.not_mem_nil, not_false_eq_true, wcall, List.append_nil, List.nil_append, List.cons_append, ite_true, ite_false, if_true, if_false, wipe, putBack, shOf, List.foldr_cons, List.foldr_nil, beq_self_eq_true, Nat.reduceAdd, Nat.reduceLT, Nat.reduceLeDiff, Nat.reduceEqDiff, Nat.reduceSub, Nat.reduceMul, Nat.reducePow, Int.reducePow, Int.reduceToNat, Int.reduceLT, Int.reduceLE, Int.reduceNe, Int.reduceEq, Int.reduceNeg, Int.reduceAdd, Int.reduceSub, Int.reduceMul, List.replicate, ne_eq, not_true_eq_false, false_and, and_false, or_true, true_or])

/-- a pen: its cells, its place, what is left of a great cell -/
def PenOk (B : Int) (d : D) : Prop := ∃ (c : List Int) (a m : Int), d = .list [.list (c.map .int), .int a, .int m] ∧ c.length ≤ 63 ∧ 0 ≤ a ∧ a ≤ B ∧ 0 ≤ m
theorem PenOk.mono {B B' : Int} {d : D} (h : PenOk B d) (l : B ≤ B') : PenOk B' d := by
  obtain ⟨c, a, m, h1, h2, h3, h4, h5⟩ := h
  exact ⟨c, a, m, h1, h2, h3, by omega, h5⟩
theorem plain_ints : ∀ c : List Int, PyData.plain (.list (c.map PyData.int)) = true := by
  intro c
  have h : ∀ c : List Int, PyData.plainAll (c.map PyData.int) = true := by
    intro c
    induction c with
    | nil => rfl
    | cons x c ih => rw [List.map_cons, PyData.plainAll, ih]; rfl
  rw [PyData.plain]
  exact h c
theorem depth_intsL : ∀ c : List Int, PyData.depth (.list (c.map PyData.int)) ≤ 64 := by
  intro c
  have h : ∀ c : List Int, PyData.depthAll (c.map PyData.int) = 0 := by
    intro c
    induction c with
    | nil => rfl
    | cons x c ih => rw [List.map_cons, PyData.depthAll, ih]; rfl
  rw [PyData.depth, h c]
  omega
theorem ints_ok (c : List Int) : eqOk (.list (c.map PyData.int)) = true := by
  unfold eqOk
  rw [plain_ints, decide_eq_true (depth_intsL c)]
  rfl
theorem ne_nil {R : Bool → Prop} (c : List Int) : wcm .NotEq (.list (c.map PyData.int)) (.list []) R = R (decide (0 < c.length)) := by
  rw [c_ne, ints_ok, show eqOk (.list []) = true from rfl]
  cases c with
  | nil => simp [PyData.eqv, PyData.eqvAll]
  | cons x c => simp [PyData.eqv, PyData.eqvAll]
theorem sp_draw (k : Nat) {B : Int} {pen : D} {many : Int} (hp : PenOk B pen) (hB : B ≤ 1000000) (hm : 0 < many) (hm2 : many < 1073741824) : wc (run prog (k + 1) F__law_draw [.ow 1 pen, .sh (.int many)]) fun m d o =>
    m = 0 ∧ ∃ pen' r, o = [.ow 1 pen', .sh (.int many)] ∧ PenOk (B + 1) pen' ∧ d = .int r ∧ 0 ≤ r ∧ r < many := by
  obtain ⟨c, a, m, rfl, h1, h2, h3, h4⟩ := hp
  have fin : ∀ (a' m' x : Int), 0 ≤ a' → a' ≤ a + 1 → 0 ≤ m' → ∃ pen' r, [Sl.ow 1 (.list [.list (c.map .int), .int a', .int m']), Sl.sh (.int many)] = [.ow 1 pen', .sh (.int many)] ∧ PenOk (B + 1) pen' ∧ (PyData.int (x % many)) = .int r ∧ 0 ≤ r ∧ r < many :=
    fun a' m' x e1 e2 e3 => ⟨_, _, rfl, ⟨c, a', m', rfl, h1, e1, by omega, e3⟩, rfl, Int.emod_nonneg _ (by omega), Int.emod_lt_of_pos _ hm⟩
  refine wc_run (F := T__law_draw) rfl rfl ?_
  unfold T__law_draw
  walk_at "pv"
  refine s_cut fun K hn hr hb hc => ?_
  simp only [↓wp_bind, ↓wp_ret, ↓wp_ofO, ↓wp_rdS, ↓wp_rdO, ↓wp_wr, ↓wp_valM, ↓wp_boolM, ↓wp_bad, ↓wp_opM, ↓woA_o1, ↓woA_o2, ↓woA_2o, ↓wo_f1, ↓wo_f2, ↓wp_v1, ↓wp_lit, ↓wp_var, ↓wp_own, ↓wp_frz, ↓wp_glb, ↓wp_kidx, ↓wp_kin, ↓wp_bin, ↓wp_neg, ↓wp_tst, ↓wp_boolV, ↓wp_not, ↓wp_bo, ↓wp_and_nil, ↓wp_or_nil, ↓wp_and_1, ↓wp_or_1, ↓wp_and_cons, ↓wp_or_cons, ↓wo_cmpF, ↓wp_cmp, ↓wp_cmp2, ↓wp_ife, ↓wvs_nil, ↓wvs_cons, ↓wp_tup, ↓wp_lst, ↓wp_evs_nil, ↓wp_evs_cons, ↓wp_idx, ↓wp_oe_no, ↓wint_int, ↓wp_oe_so, ↓wp_slc, ↓wp_rev, ↓wp_by2, ↓wp_bi, ↓woA_b1, ↓woA_b2, ↓woA_bo, ↓wp_me, ↓wp_call, ↓wp_comp, ↓wp_popE, ↓wp_popV, ↓wp_compO, ↓wol_ow, ↓wp_it_seq, ↓wp_it_rng1, ↓wp_it_rng2, ↓wp_it_enum, ↓wp_it_zip2, ↓wp_it_rev, ↓wp_nm, ↓wp_tp, ↓wp_tpl, ↓wp_tp_nil, ↓wp_tp_cons, ↓wp_W_lst, ↓wp_W_lst2, ↓wp_Ws_nil, ↓wp_Ws_cons, ↓wls_l, ↓wp_W_slc, ↓wp_W_rev, ↓wp_W_bi, ↓wp_W_add, ↓wp_W_comp, ↓wp_W_call, ↓wp_W_ife, ↓wp_vM, ↓wp_s_nil, ↓wp_asg0, ↓wp_asgW, ↓wp_unp, ↓wp_aug, ↓wp_sto0, ↓wp_stoW, ↓wp_app0, ↓wp_appW, ↓wp_mc_reverse, ↓wp_mc_clear, ↓wp_mc_extend, ↓wp_sfrz, ↓wp_exp, ↓wp_ret0, ↓wp_retW, ↓wp_reto, ↓wp_retn, ↓wp_ite, ↓wp_for, ↓wp_whl, ↓wp_brk, ↓wp_cnt, ↓wp_pas, ↓wp_ebad, ↓wp_sbad, ↓wdc_v, ↓wdc_o, ↓wp_dget, ↓wp_dget2, ↓woA_3, ↓woA_o3, ↓woA_b3, ↓wp_dct, ↓wp_it_zipS, ↓wp_par, ↓wp_tryN, ↓wp_parL_nil, ↓wp_parL_cons, ↓b_mult, ↓b_mulli, ↓c_isb, ↓c_isnb, ↓c_insg, ↓c_ninsg, ↓i_dict, ↓d_get1, ↓d_get2, ↓f_all, ↓f_any, ↓f_max3, ↓f_min3, ↓f_divmod, ↓f_strs, ↓f_sorted, ↓f_srtK, ↓f_sortR, ↓f_lenset, ↓f_lrg, ↓f_lrg2, ↓f_dict, ↓r_tup, ↓q_zll, ↓q_ztt, ↓q_zsl, ↓q_zst, ↓wo_some, ↓wv_val, ↓wb_bool, ↓wsh_sh, ↓wow_ow, ↓wif_t, ↓wif_f, ↓wif_d, ↓wif_n, ↓wif_and, ↓wif_or, ↓wnx_nx, ↓wnx_rt, ↓wnx_bk, ↓wnx_ct, ↓wtn_nx, ↓wtn_ct, ↓wtn_bk, ↓wtn_rt, ↓wrl_ow, ↓wfin_rt, ↓wfin_nx, ↓wp_forL_nil, ↓b_add, ↓b_muls, ↓b_sub, ↓b_mull, ↓b_mulr, ↓b_mul, ↓b_fdivp, ↓b_fdiv, ↓b_modp, ↓b_mod, ↓b_pow, ↓b_adds, ↓b_addl, ↓b_addt, ↓n_int, ↓c_eqi, ↓c_nei, ↓c_eqs, ↓c_nes, ↓c_lt, ↓c_le, ↓c_gt, ↓c_ge, ↓c_is, ↓c_isn, ↓c_int, ↓c_inl, ↓c_nint, ↓c_ninl, ↓i_list, ↓i_tup, ↓i_str, ↓wat_map, ↓wat_0, ↓wat_1, ↓wat_2, ↓wat_3, ↓wat_4, ↓wat_5, ↓wat_6, ↓wat_7, ↓wat_8, ↓s_0, ↓s_1, ↓s_2, ↓s_3, ↓s_4, ↓s_5, ↓a_list, ↓e_list, ↓m_reverse, ↓m_clear, ↓g_add, ↓g_sub, ↓f_lenl, ↓f_lent, ↓f_lens, ↓f_abs, ↓f_max, ↓f_min, ↓f_minD, ↓f_maxD, ↓f_zfill, ↓f_intb, ↓f_int, ↓f_tupl, ↓f_tupt, ↓f_lstl, ↓f_lstt, ↓f_isa, ↓f_repr, ↓f_str, ↓f_sset, ↓q_list, ↓q_tup, ↓q_enl, ↓q_ent, ↓q_revl, ↓q_revt, ↓l_list, ↓l_tup, ↓l_str, ↓r_list, ↓y_by2, ↓wrng_0, isA_ss, isA_ll, isA_tt, rootBi, freshBi, meT, sline_num, eqv_ss, eqv_ii, List.any_cons, List.any_nil, Bool.or_false, we_eq, wo_some, wsh_sh, wow_ow, wrl_ow, List.getElem?_cons_succ, List.getElem?_cons_zero, List.set_cons_succ, List.set_cons_zero, List.length_cons, List.length_nil, List.length_map, List.map_cons, List.map_nil, wif_t, wif_f, wnx_nx, wnx_rt, frOk_int, frOk_str, frOk_bool, frOk_none, frOk_1, true_and, and_true, fillS, slotOf, ownSl, backS, finO, List.filterMap_cons, List.filterMap_nil, id, wo_map, List.nodup_cons, List.nodup_nil, List.not_mem_nil, not_false_eq_true, wcall, List.append_nil, List.nil_append, List.cons_append, ite_true, ite_false, if_true, if_false, wipe, putBack, shOf, List.foldr_cons, List.foldr_nil, beq_self_eq_true, Nat.reduceAdd, Nat.reduceLT, Nat.reduceLeDiff, Nat.reduceEqDiff, Nat.reduceSub, Nat.reduceMul, Nat.reducePow, Int.reducePow, Int.reduceToNat, Int.reduceLT, Int.reduceLE, Int.reduceNe, Int.reduceEq, Int.reduceNeg, Int.reduceAdd, Int.reduceSub, Int.reduceMul, List.replicate, ne_eq, not_true_eq_false, false_and, and_false, or_true, true_or, hm, hm2]
  refine ⟨fun hp => ?_, fun hp => ?_⟩
  · refine s_cut fun K hn hr hb hc => ?_
    simp only [↓wp_bind, ↓wp_ret, ↓wp_ofO, ↓wp_rdS, ↓wp_rdO, ↓wp_wr, ↓wp_valM, ↓wp_boolM, ↓wp_bad, ↓wp_opM, ↓woA_o1, ↓woA_o2, ↓woA_2o, ↓wo_f1, ↓wo_f2, ↓wp_v1, ↓wp_lit, ↓wp_var, ↓wp_own, ↓wp_frz, ↓wp_glb, ↓wp_kidx, ↓wp_kin, ↓wp_bin, ↓wp_neg, ↓wp_tst, ↓wp_boolV, ↓wp_not, ↓wp_bo, ↓wp_and_nil, ↓wp_or_nil, ↓wp_and_1, ↓wp_or_1, ↓wp_and_cons, ↓wp_or_cons, ↓wo_cmpF, ↓wp_cmp, ↓wp_cmp2, ↓wp_ife, ↓wvs_nil, ↓wvs_cons, ↓wp_tup, ↓wp_lst, ↓wp_evs_nil, ↓wp_evs_cons, ↓wp_idx, ↓wp_oe_no, ↓wint_int, ↓wp_oe_so, ↓wp_slc, ↓wp_rev, ↓wp_by2, ↓wp_bi, ↓woA_b1, ↓woA_b2, ↓woA_bo, ↓wp_me, ↓wp_call, ↓wp_comp, ↓wp_popE, ↓wp_popV, ↓wp_compO, ↓wol_ow, ↓wp_it_seq, ↓wp_it_rng1, ↓wp_it_rng2, ↓wp_it_enum, ↓wp_it_zip2, ↓wp_it_rev, ↓wp_nm, ↓wp_tp, ↓wp_tpl, ↓wp_tp_nil, ↓wp_tp_cons, ↓wp_W_lst, ↓wp_W_lst2, ↓wp_Ws_nil, ↓wp_Ws_cons, ↓wls_l, ↓wp_W_slc, ↓wp_W_rev, ↓wp_W_bi, ↓wp_W_add, ↓wp_W_comp, ↓wp_W_call, ↓wp_W_ife, ↓wp_vM, ↓wp_s_nil, ↓wp_asg0, ↓wp_asgW, ↓wp_unp, ↓wp_aug, ↓wp_sto0, ↓wp_stoW, ↓wp_app0, ↓wp_appW, ↓wp_mc_reverse, ↓wp_mc_clear, ↓wp_mc_extend, ↓wp_sfrz, ↓wp_exp, ↓wp_ret0, ↓wp_retW, ↓wp_reto, ↓wp_retn, ↓wp_ite, ↓wp_for, ↓wp_whl, ↓wp_brk, ↓wp_cnt, ↓wp_pas, ↓wp_ebad, ↓wp_sbad, ↓wdc_v, ↓wdc_o, ↓wp_dget, ↓wp_dget2, ↓woA_3, ↓woA_o3, ↓woA_b3, ↓wp_dct, ↓wp_it_zipS, ↓wp_par, ↓wp_tryN, ↓wp_parL_nil, ↓wp_parL_cons, ↓b_mult, ↓b_mulli, ↓c_isb, ↓c_isnb, ↓c_insg, ↓c_ninsg, ↓i_dict, ↓d_get1, ↓d_get2, ↓f_all, ↓f_any, ↓f_max3, ↓f_min3, ↓f_divmod, ↓f_strs, ↓f_sorted, ↓f_srtK, ↓f_sortR, ↓f_lenset, ↓f_lrg, ↓f_lrg2, ↓f_dict, ↓r_tup, ↓q_zll, ↓q_ztt, ↓q_zsl, ↓q_zst, ↓wo_some, ↓wv_val, ↓wb_bool, ↓wsh_sh, ↓wow_ow, ↓wif_t, ↓wif_f, ↓wif_d, ↓wif_n, ↓wif_and, ↓wif_or, ↓wnx_nx, ↓wnx_rt, ↓wnx_bk, ↓wnx_ct, ↓wtn_nx, ↓wtn_ct, ↓wtn_bk, ↓wtn_rt, ↓wrl_ow, ↓wfin_rt, ↓wfin_nx, ↓wp_forL_nil, ↓b_add, ↓b_muls, ↓b_sub, ↓b_mull, ↓b_mulr, ↓b_mul, ↓b_fdivp, ↓b_fdiv, ↓b_modp, ↓b_mod, ↓b_pow, ↓b_adds, ↓b_addl, ↓b_addt, ↓n_int, ↓c_eqi, ↓c_nei, ↓c_eqs, ↓c_nes, ↓c_lt, ↓c_le, ↓c_gt, ↓c_ge, ↓c_is, ↓c_isn, ↓c_int, ↓c_inl, ↓c_nint, ↓c_ninl, ↓i_list, ↓i_tup, ↓i_str, ↓wat_map, ↓wat_0, ↓wat_1, ↓wat_2, ↓wat_3, ↓wat_4, ↓wat_5, ↓wat_6, ↓wat_7, ↓wat_8, ↓s_0, ↓s_1, ↓s_2, ↓s_3, ↓s_4, ↓s_5, ↓a_list, ↓e_list, ↓m_reverse, ↓m_clear, ↓g_add, ↓g_sub, ↓f_lenl, ↓f_lent, ↓f_lens, ↓f_abs, ↓f_max, ↓f_min, ↓f_minD, ↓f_maxD, ↓f_zfill, ↓f_intb, ↓f_int, ↓f_tupl, ↓f_tupt, ↓f_lstl, ↓f_lstt, ↓f_isa, ↓f_repr, ↓f_str, ↓f_sset, ↓q_list, ↓q_tup, ↓q_enl, ↓q_ent, ↓q_revl, ↓q_revt, ↓l_list, ↓l_tup, ↓l_str, ↓r_list, ↓y_by2, ↓wrng_0, isA_ss, isA_ll, isA_tt, rootBi, freshBi, meT, sline_num, eqv_ss, eqv_ii, List.any_cons, List.any_nil, Bool.or_false, we_eq, wo_some, wsh_sh, wow_ow, wrl_ow, List.getElem?_cons_succ, List.getElem?_cons_zero, List.set_cons_succ, List.set_cons_zero, List.length_cons, List.length_nil, List.length_map, List.map_cons, List.map_nil, wif_t, wif_f, wnx_nx, wnx_rt, frOk_int, frOk_str, frOk_bool, frOk_none, frOk_1, true_and, and_true, fillS, slotOf, ownSl, backS, finO, List.filterMap_cons, List.filterMap_nil, id, wo_map, List.nodup_cons, List.nodup_nil, List.not_mem_nil, not_false_eq_true, wcall, List.append_nil, List.nil_append, List.cons_append, ite_true, ite_false, if_true, if_false, wipe, putBack, shOf, List.foldr_cons, List.foldr_nil, beq_self_eq_true, Nat.reduceAdd, Nat.reduceLT, Nat.reduceLeDiff, Nat.reduceEqDiff, Nat.reduceSub, Nat.reduceMul, Nat.reducePow, Int.reducePow, Int.reduceToNat, Int.reduceLT, Int.reduceLE, Int.reduceNe, Int.reduceEq, Int.reduceNeg, Int.reduceAdd, Int.reduceSub, Int.reduceMul, List.replicate, ne_eq, not_true_eq_false, false_and, and_false, or_true, true_or, hm, hm2]
    refine hn _ ?_
    clear hn hr hb hc
    refine s_cut fun K hn hr hb hc => ?_
    simp only [↓wp_bind, ↓wp_ret, ↓wp_ofO, ↓wp_rdS, ↓wp_rdO, ↓wp_wr, ↓wp_valM, ↓wp_boolM, ↓wp_bad, ↓wp_opM, ↓woA_o1, ↓woA_o2, ↓woA_2o, ↓wo_f1, ↓wo_f2, ↓wp_v1, ↓wp_lit, ↓wp_var, ↓wp_own, ↓wp_frz, ↓wp_glb, ↓wp_kidx, ↓wp_kin, ↓wp_bin, ↓wp_neg, ↓wp_tst, ↓wp_boolV, ↓wp_not, ↓wp_bo, ↓wp_and_nil, ↓wp_or_nil, ↓wp_and_1, ↓wp_or_1, ↓wp_and_cons, ↓wp_or_cons, ↓wo_cmpF, ↓wp_cmp, ↓wp_cmp2, ↓wp_ife, ↓wvs_nil, ↓wvs_cons, ↓wp_tup, ↓wp_lst, ↓wp_evs_nil, ↓wp_evs_cons, ↓wp_idx, ↓wp_oe_no, ↓wint_int, ↓wp_oe_so, ↓wp_slc, ↓wp_rev, ↓wp_by2, ↓wp_bi, ↓woA_b1, ↓woA_b2, ↓woA_bo, ↓wp_me, ↓wp_call, ↓wp_comp, ↓wp_popE, ↓wp_popV, ↓wp_compO, ↓wol_ow, ↓wp_it_seq, ↓wp_it_rng1, ↓wp_it_rng2, ↓wp_it_enum, ↓wp_it_zip2, ↓wp_it_rev, ↓wp_nm, ↓wp_tp, ↓wp_tpl, ↓wp_tp_nil, ↓wp_tp_cons, ↓wp_W_lst, ↓wp_W_lst2, ↓wp_Ws_nil, ↓wp_Ws_cons, ↓wls_l, ↓wp_W_slc, ↓wp_W_rev, ↓wp_W_bi, ↓wp_W_add, ↓wp_W_comp, ↓wp_W_call, ↓wp_W_ife, ↓wp_vM, ↓wp_s_nil, ↓wp_asg0, ↓wp_asgW, ↓wp_unp, ↓wp_aug, ↓wp_sto0, ↓wp_stoW, ↓wp_app0, ↓wp_appW, ↓wp_mc_reverse, ↓wp_mc_clear, ↓wp_mc_extend, ↓wp_sfrz, ↓wp_exp, ↓wp_ret0, ↓wp_retW, ↓wp_reto, ↓wp_retn, ↓wp_ite, ↓wp_for, ↓wp_whl, ↓wp_brk, ↓wp_cnt, ↓wp_pas, ↓wp_ebad, ↓wp_sbad, ↓wdc_v, ↓wdc_o, ↓wp_dget, ↓wp_dget2, ↓woA_3, ↓woA_o3, ↓woA_b3, ↓wp_dct, ↓wp_it_zipS, ↓wp_par, ↓wp_tryN, ↓wp_parL_nil, ↓wp_parL_cons, ↓b_mult, ↓b_mulli, ↓c_isb, ↓c_isnb, ↓c_insg, ↓c_ninsg, ↓i_dict, ↓d_get1, ↓d_get2, ↓f_all, ↓f_any, ↓f_max3, ↓f_min3, ↓f_divmod, ↓f_strs, ↓f_sorted, ↓f_srtK, ↓f_sortR, ↓f_lenset, ↓f_lrg, ↓f_lrg2, ↓f_dict, ↓r_tup, ↓q_zll, ↓q_ztt, ↓q_zsl, ↓q_zst, ↓wo_some, ↓wv_val, ↓wb_bool, ↓wsh_sh, ↓wow_ow, ↓wif_t, ↓wif_f, ↓wif_d, ↓wif_n, ↓wif_and, ↓wif_or, ↓wnx_nx, ↓wnx_rt, ↓wnx_bk, ↓wnx_ct, ↓wtn_nx, ↓wtn_ct, ↓wtn_bk, ↓wtn_rt, ↓wrl_ow, ↓wfin_rt, ↓wfin_nx, ↓wp_forL_nil, ↓b_add, ↓b_muls, ↓b_sub, ↓b_mull, ↓b_mulr, ↓b_mul, ↓b_fdivp, ↓b_fdiv, ↓b_modp, ↓b_mod, ↓b_pow, ↓b_adds, ↓b_addl, ↓b_addt, ↓n_int, ↓c_eqi, ↓c_nei, ↓c_eqs, ↓c_nes, ↓c_lt, ↓c_le, ↓c_gt, ↓c_ge, ↓c_is, ↓c_isn, ↓c_int, ↓c_inl, ↓c_nint, ↓c_ninl, ↓i_list, ↓i_tup, ↓i_str, ↓wat_map, ↓wat_0, ↓wat_1, ↓wat_2, ↓wat_3, ↓wat_4, ↓wat_5, ↓wat_6, ↓wat_7, ↓wat_8, ↓s_0, ↓s_1, ↓s_2, ↓s_3, ↓s_4, ↓s_5, ↓a_list, ↓e_list, ↓m_reverse, ↓m_clear, ↓g_add, ↓g_sub, ↓f_lenl, ↓f_lent, ↓f_lens, ↓f_abs, ↓f_max, ↓f_min, ↓f_minD, ↓f_maxD, ↓f_zfill, ↓f_intb, ↓f_int, ↓f_tupl, ↓f_tupt, ↓f_lstl, ↓f_lstt, ↓f_isa, ↓f_repr, ↓f_str, ↓f_sset, ↓q_list, ↓q_tup, ↓q_enl, ↓q_ent, ↓q_revl, ↓q_revt, ↓l_list, ↓l_tup, ↓l_str, ↓r_list, ↓y_by2, ↓wrng_0, isA_ss, isA_ll, isA_tt, rootBi, freshBi, meT, sline_num, eqv_ss, eqv_ii, List.any_cons, List.any_nil, Bool.or_false, we_eq, wo_some, wsh_sh, wow_ow, wrl_ow, List.getElem?_cons_succ, List.getElem?_cons_zero, List.set_cons_succ, List.set_cons_zero, List.length_cons, List.length_nil, List.length_map, List.map_cons, List.map_nil, wif_t, wif_f, wnx_nx, wnx_rt, frOk_int, frOk_str, frOk_bool, frOk_none, frOk_1, true_and, and_true, fillS, slotOf, ownSl, backS, finO, List.filterMap_cons, List.filterMap_nil, id, wo_map, List.nodup_cons, List.nodup_nil, List.not_mem_nil, not_false_eq_true, wcall, List.append_nil, List.nil_append, List.cons_append, ite_true, ite_false, if_true, if_false, wipe, putBack, shOf, List.foldr_cons, List.foldr_nil, beq_self_eq_true, Nat.reduceAdd, Nat.reduceLT, Nat.reduceLeDiff, Nat.reduceEqDiff, Nat.reduceSub, Nat.reduceMul, Nat.reducePow, Int.reducePow, Int.reduceToNat, Int.reduceLT, Int.reduceLE, Int.reduceNe, Int.reduceEq, Int.reduceNeg, Int.reduceAdd, Int.reduceSub, Int.reduceMul, List.replicate, ne_eq, not_true_eq_false, false_and, and_false, or_true, true_or, hm, hm2]
    refine hn _ ?_
    clear hn hr hb hc
    refine s_cut fun K hn hr hb hc => ?_
    walk_at "pv"
    refine hr _ _ _ ?_
    clear hn hr hb hc
    refine hr _ _ _ ?_
    clear hn hr hb hc
    walk_at "pv"
    exact fin _ _ _ h2 (by omega) (Int.ediv_nonneg h4 (by omega))
  refine hn _ ?_
  refine s_cut fun K hn hr hb hc => ?_
  walk_at "pv"
  refine hn _ ?_
  clear hn hr hb hc
  refine s_cut fun K hn hr hb hc => ?_
  walk_at "pv"
  refine hn _ ?_
  clear hn hr hb hc
  refine s_cut fun K hn hr hb hc => ?_
  walk_at "pv"
  refine hn _ ?_
  clear hn hr hb hc
  refine s_cut fun K hn hr hb hc => ?_
  have go : ∀ x : Int, K .nx [.ow 1 (.list [.list (c.map .int), .int (a + 1), .int m]), .sh (.int many), .sh (.int a), .sh (.int x), .no, .no] := by
    intro x
    refine hn _ ?_
    refine s_cut fun K hn hr hb hc => ?_
    have rest : K .nx [.ow 1 (.list [.list (c.map .int), .int (a + 1), .int m]), .sh (.int many), .sh (.int a), .sh (.int x), .no, .no] := by
      refine hn _ ?_
      refine s_cut fun K hn hr hb hc => ?_
      walk_at "pv"
      have x1 : 0 ≤ x % 2147483629 ∧ x % 2147483629 < 2147483629 := ⟨Int.emod_nonneg _ (by omega), Int.emod_lt_of_pos _ (by omega)⟩
      generalize x % 2147483629 = x' at *
      refine ⟨by omega, hn _ ?_⟩
      generalize (x' + 50021 * a + 7) ^ 3 = y
      refine s_cut fun K hn hr hb hc => ?_
      walk_at "pv"
      have x2 : 0 ≤ y % 2147483587 ∧ y % 2147483587 < 2147483587 := ⟨Int.emod_nonneg _ (by omega), Int.emod_lt_of_pos _ (by omega)⟩
      generalize y % 2147483587 = y' at *
      have x4 : 0 ≤ y' * (2 * a + 3) ∧ y' * (2 * a + 3) ≤ 2147483587 * 3000000 := ⟨Int.mul_nonneg x2.1 (by omega), Int.mul_le_mul (by omega) (by omega) (by omega) (by omega)⟩
      refine ⟨.inl (by omega), by omega, hn _ ?_⟩
      generalize (y' * (2 * a + 3) + 77003) ^ 3 = z
      refine s_cut fun K hn hr hb hc => ?_
      simp only [↓wp_bind, ↓wp_ret, ↓wp_ofO, ↓wp_rdS, ↓wp_rdO, ↓wp_wr, ↓wp_valM, ↓wp_boolM, ↓wp_bad, ↓wp_opM, ↓woA_o1, ↓woA_o2, ↓woA_2o, ↓wo_f1, ↓wo_f2, ↓wp_v1, ↓wp_lit, ↓wp_var, ↓wp_own, ↓wp_frz, ↓wp_glb, ↓wp_kidx, ↓wp_kin, ↓wp_bin, ↓wp_neg, ↓wp_tst, ↓wp_boolV, ↓wp_not, ↓wp_bo, ↓wp_and_nil, ↓wp_or_nil, ↓wp_and_1, ↓wp_or_1, ↓wp_and_cons, ↓wp_or_cons, ↓wo_cmpF, ↓wp_cmp, ↓wp_cmp2, ↓wp_ife, ↓wvs_nil, ↓wvs_cons, ↓wp_tup, ↓wp_lst, ↓wp_evs_nil, ↓wp_evs_cons, ↓wp_idx, ↓wp_oe_no, ↓wint_int, ↓wp_oe_so, ↓wp_slc, ↓wp_rev, ↓wp_by2, ↓wp_bi, ↓woA_b1, ↓woA_b2, ↓woA_bo, ↓wp_me, ↓wp_call, ↓wp_comp, ↓wp_popE, ↓wp_popV, ↓wp_compO, ↓wol_ow, ↓wp_it_seq, ↓wp_it_rng1, ↓wp_it_rng2, ↓wp_it_enum, ↓wp_it_zip2, ↓wp_it_rev, ↓wp_nm, ↓wp_tp, ↓wp_tpl, ↓wp_tp_nil, ↓wp_tp_cons, ↓wp_W_lst, ↓wp_W_lst2, ↓wp_Ws_nil, ↓wp_Ws_cons, ↓wls_l, ↓wp_W_slc, ↓wp_W_rev, ↓wp_W_bi, ↓wp_W_add, ↓wp_W_comp, ↓wp_W_call, ↓wp_W_ife, ↓wp_vM, ↓wp_s_nil, ↓wp_asg0, ↓wp_asgW, ↓wp_unp, ↓wp_aug, ↓wp_sto0, ↓wp_stoW, ↓wp_app0, ↓wp_appW, ↓wp_mc_reverse, ↓wp_mc_clear, ↓wp_mc_extend, ↓wp_sfrz, ↓wp_exp, ↓wp_ret0, ↓wp_retW, ↓wp_reto, ↓wp_retn, ↓wp_ite, ↓wp_for, ↓wp_whl, ↓wp_brk, ↓wp_cnt, ↓wp_pas, ↓wp_ebad, ↓wp_sbad, ↓wdc_v, ↓wdc_o, ↓wp_dget, ↓wp_dget2, ↓woA_3, ↓woA_o3, ↓woA_b3, ↓wp_dct, ↓wp_it_zipS, ↓wp_par, ↓wp_tryN, ↓wp_parL_nil, ↓wp_parL_cons, ↓b_mult, ↓b_mulli, ↓c_isb, ↓c_isnb, ↓c_insg, ↓c_ninsg, ↓i_dict, ↓d_get1, ↓d_get2, ↓f_all, ↓f_any, ↓f_max3, ↓f_min3, ↓f_divmod, ↓f_strs, ↓f_sorted, ↓f_srtK, ↓f_sortR, ↓f_lenset, ↓f_lrg, ↓f_lrg2, ↓f_dict, ↓r_tup, ↓q_zll, ↓q_ztt, ↓q_zsl, ↓q_zst, ↓wo_some, ↓wv_val, ↓wb_bool, ↓wsh_sh, ↓wow_ow, ↓wif_t, ↓wif_f, ↓wif_d, ↓wif_n, ↓wif_and, ↓wif_or, ↓wnx_nx, ↓wnx_rt, ↓wnx_bk, ↓wnx_ct, ↓wtn_nx, ↓wtn_ct, ↓wtn_bk, ↓wtn_rt, ↓wrl_ow, ↓wfin_rt, ↓wfin_nx, ↓wp_forL_nil, ↓b_add, ↓b_muls, ↓b_sub, ↓b_mull, ↓b_mulr, ↓b_mul, ↓b_fdivp, ↓b_fdiv, ↓b_modp, ↓b_mod, ↓b_pow, ↓b_adds, ↓b_addl, ↓b_addt, ↓n_int, ↓c_eqi, ↓c_nei, ↓c_eqs, ↓c_nes, ↓c_lt, ↓c_le, ↓c_gt, ↓c_ge, ↓c_is, ↓c_isn, ↓c_int, ↓c_inl, ↓c_nint, ↓c_ninl, ↓i_list, ↓i_tup, ↓i_str, ↓wat_map, ↓wat_0, ↓wat_1, ↓wat_2, ↓wat_3, ↓wat_4, ↓wat_5, ↓wat_6, ↓wat_7, ↓wat_8, ↓s_0, ↓s_1, ↓s_2, ↓s_3, ↓s_4, ↓s_5, ↓a_list, ↓e_list, ↓m_reverse, ↓m_clear, ↓g_add, ↓g_sub, ↓f_lenl, ↓f_lent, ↓f_lens, ↓f_abs, ↓f_max, ↓f_min, ↓f_minD, ↓f_maxD, ↓f_zfill, ↓f_intb, ↓f_int, ↓f_tupl, ↓f_tupt, ↓f_lstl, ↓f_lstt, ↓f_isa, ↓f_repr, ↓f_str, ↓f_sset, ↓q_list, ↓q_tup, ↓q_enl, ↓q_ent, ↓q_revl, ↓q_revt, ↓l_list, ↓l_tup, ↓l_str, ↓r_list, ↓y_by2, ↓wrng_0, isA_ss, isA_ll, isA_tt, rootBi, freshBi, meT, sline_num, eqv_ss, eqv_ii, List.any_cons, List.any_nil, Bool.or_false, we_eq, wo_some, wsh_sh, wow_ow, wrl_ow, List.getElem?_cons_succ, List.getElem?_cons_zero, List.set_cons_succ, List.set_cons_zero, List.length_cons, List.length_nil, List.length_map, List.map_cons, List.map_nil, wif_t, wif_f, wnx_nx, wnx_rt, frOk_int, frOk_str, frOk_bool, frOk_none, frOk_1, true_and, and_true, fillS, slotOf, ownSl, backS, finO, List.filterMap_cons, List.filterMap_nil, id, wo_map, List.nodup_cons, List.nodup_nil, List.not_mem_nil, not_false_eq_true, wcall, List.append_nil, List.nil_append, List.cons_append, ite_true, ite_false, if_true, if_false, wipe, putBack, shOf, List.foldr_cons, List.foldr_nil, beq_self_eq_true, Nat.reduceAdd, Nat.reduceLT, Nat.reduceLeDiff, Nat.reduceEqDiff, Nat.reduceSub, Nat.reduceMul, Nat.reducePow, Int.reducePow, Int.reduceToNat, Int.reduceLT, Int.reduceLE, Int.reduceNe, Int.reduceEq, Int.reduceNeg, Int.reduceAdd, Int.reduceSub, Int.reduceMul, List.replicate, ne_eq, not_true_eq_false, false_and, and_false, or_true, true_or, hm]
      refine hr _ _ _ ?_
      clear hn hr hb hc
      walk_at "pv"
      exact fin _ _ _ (by omega) (by omega) h4
    walk_at "pv"
    refine ⟨fun hl => ⟨fun hg => ?_, fun hg => rest⟩, fun hl => rest⟩
    refine s_cut fun K hn hr hb hc => ?_
    simp only [↓wp_bind, ↓wp_ret, ↓wp_ofO, ↓wp_rdS, ↓wp_rdO, ↓wp_wr, ↓wp_valM, ↓wp_boolM, ↓wp_bad, ↓wp_opM, ↓woA_o1, ↓woA_o2, ↓woA_2o, ↓wo_f1, ↓wo_f2, ↓wp_v1, ↓wp_lit, ↓wp_var, ↓wp_own, ↓wp_frz, ↓wp_glb, ↓wp_kidx, ↓wp_kin, ↓wp_bin, ↓wp_neg, ↓wp_tst, ↓wp_boolV, ↓wp_not, ↓wp_bo, ↓wp_and_nil, ↓wp_or_nil, ↓wp_and_1, ↓wp_or_1, ↓wp_and_cons, ↓wp_or_cons, ↓wo_cmpF, ↓wp_cmp, ↓wp_cmp2, ↓wp_ife, ↓wvs_nil, ↓wvs_cons, ↓wp_tup, ↓wp_lst, ↓wp_evs_nil, ↓wp_evs_cons, ↓wp_idx, ↓wp_oe_no, ↓wint_int, ↓wp_oe_so, ↓wp_slc, ↓wp_rev, ↓wp_by2, ↓wp_bi, ↓woA_b1, ↓woA_b2, ↓woA_bo, ↓wp_me, ↓wp_call, ↓wp_comp, ↓wp_popE, ↓wp_popV, ↓wp_compO, ↓wol_ow, ↓wp_it_seq, ↓wp_it_rng1, ↓wp_it_rng2, ↓wp_it_enum, ↓wp_it_zip2, ↓wp_it_rev, ↓wp_nm, ↓wp_tp, ↓wp_tpl, ↓wp_tp_nil, ↓wp_tp_cons, ↓wp_W_lst, ↓wp_W_lst2, ↓wp_Ws_nil, ↓wp_Ws_cons, ↓wls_l, ↓wp_W_slc, ↓wp_W_rev, ↓wp_W_bi, ↓wp_W_add, ↓wp_W_comp, ↓wp_W_call, ↓wp_W_ife, ↓wp_vM, ↓wp_s_nil, ↓wp_asg0, ↓wp_asgW, ↓wp_unp, ↓wp_aug, ↓wp_sto0, ↓wp_stoW, ↓wp_app0, ↓wp_appW, ↓wp_mc_reverse, ↓wp_mc_clear, ↓wp_mc_extend, ↓wp_sfrz, ↓wp_exp, ↓wp_ret0, ↓wp_retW, ↓wp_reto, ↓wp_retn, ↓wp_ite, ↓wp_for, ↓wp_whl, ↓wp_brk, ↓wp_cnt, ↓wp_pas, ↓wp_ebad, ↓wp_sbad, ↓wdc_v, ↓wdc_o, ↓wp_dget, ↓wp_dget2, ↓woA_3, ↓woA_o3, ↓woA_b3, ↓wp_dct, ↓wp_it_zipS, ↓wp_par, ↓wp_tryN, ↓wp_parL_nil, ↓wp_parL_cons, ↓b_mult, ↓b_mulli, ↓c_isb, ↓c_isnb, ↓c_insg, ↓c_ninsg, ↓i_dict, ↓d_get1, ↓d_get2, ↓f_all, ↓f_any, ↓f_max3, ↓f_min3, ↓f_divmod, ↓f_strs, ↓f_sorted, ↓f_srtK, ↓f_sortR, ↓f_lenset, ↓f_lrg, ↓f_lrg2, ↓f_dict, ↓r_tup, ↓q_zll, ↓q_ztt, ↓q_zsl, ↓q_zst, ↓wo_some, ↓wv_val, ↓wb_bool, ↓wsh_sh, ↓wow_ow, ↓wif_t, ↓wif_f, ↓wif_d, ↓wif_n, ↓wif_and, ↓wif_or, ↓wnx_nx, ↓wnx_rt, ↓wnx_bk, ↓wnx_ct, ↓wtn_nx, ↓wtn_ct, ↓wtn_bk, ↓wtn_rt, ↓wrl_ow, ↓wfin_rt, ↓wfin_nx, ↓wp_forL_nil, ↓b_add, ↓b_muls, ↓b_sub, ↓b_mull, ↓b_mulr, ↓b_mul, ↓b_fdivp, ↓b_fdiv, ↓b_modp, ↓b_mod, ↓b_pow, ↓b_adds, ↓b_addl, ↓b_addt, ↓n_int, ↓c_eqi, ↓c_nei, ↓c_eqs, ↓c_nes, ↓c_lt, ↓c_le, ↓c_gt, ↓c_ge, ↓c_is, ↓c_isn, ↓c_int, ↓c_inl, ↓c_nint, ↓c_ninl, ↓i_list, ↓i_tup, ↓i_str, ↓wat_map, ↓wat_0, ↓wat_1, ↓wat_2, ↓wat_3, ↓wat_4, ↓wat_5, ↓wat_6, ↓wat_7, ↓wat_8, ↓s_0, ↓s_1, ↓s_2, ↓s_3, ↓s_4, ↓s_5, ↓a_list, ↓e_list, ↓m_reverse, ↓m_clear, ↓g_add, ↓g_sub, ↓f_lenl, ↓f_lent, ↓f_lens, ↓f_abs, ↓f_max, ↓f_min, ↓f_minD, ↓f_maxD, ↓f_zfill, ↓f_intb, ↓f_int, ↓f_tupl, ↓f_tupt, ↓f_lstl, ↓f_lstt, ↓f_isa, ↓f_repr, ↓f_str, ↓f_sset, ↓q_list, ↓q_tup, ↓q_enl, ↓q_ent, ↓q_revl, ↓q_revt, ↓l_list, ↓l_tup, ↓l_str, ↓r_list, ↓y_by2, ↓wrng_0, isA_ss, isA_ll, isA_tt, rootBi, freshBi, meT, sline_num, eqv_ss, eqv_ii, List.any_cons, List.any_nil, Bool.or_false, we_eq, wo_some, wsh_sh, wow_ow, wrl_ow, List.getElem?_cons_succ, List.getElem?_cons_zero, List.set_cons_succ, List.set_cons_zero, List.length_cons, List.length_nil, List.length_map, List.map_cons, List.map_nil, wif_t, wif_f, wnx_nx, wnx_rt, frOk_int, frOk_str, frOk_bool, frOk_none, frOk_1, true_and, and_true, fillS, slotOf, ownSl, backS, finO, List.filterMap_cons, List.filterMap_nil, id, wo_map, List.nodup_cons, List.nodup_nil, List.not_mem_nil, not_false_eq_true, wcall, List.append_nil, List.nil_append, List.cons_append, ite_true, ite_false, if_true, if_false, wipe, putBack, shOf, List.foldr_cons, List.foldr_nil, beq_self_eq_true, Nat.reduceAdd, Nat.reduceLT, Nat.reduceLeDiff, Nat.reduceEqDiff, Nat.reduceSub, Nat.reduceMul, Nat.reducePow, Int.reducePow, Int.reduceToNat, Int.reduceLT, Int.reduceLE, Int.reduceNe, Int.reduceEq, Int.reduceNeg, Int.reduceAdd, Int.reduceSub, Int.reduceMul, List.replicate, ne_eq, not_true_eq_false, false_and, and_false, or_true, true_or, hm, hm2]
    refine hn _ ?_
    clear hn hr hb hc
    refine s_cut fun K hn hr hb hc => ?_
    simp only [↓wp_bind, ↓wp_ret, ↓wp_ofO, ↓wp_rdS, ↓wp_rdO, ↓wp_wr, ↓wp_valM, ↓wp_boolM, ↓wp_bad, ↓wp_opM, ↓woA_o1, ↓woA_o2, ↓woA_2o, ↓wo_f1, ↓wo_f2, ↓wp_v1, ↓wp_lit, ↓wp_var, ↓wp_own, ↓wp_frz, ↓wp_glb, ↓wp_kidx, ↓wp_kin, ↓wp_bin, ↓wp_neg, ↓wp_tst, ↓wp_boolV, ↓wp_not, ↓wp_bo, ↓wp_and_nil, ↓wp_or_nil, ↓wp_and_1, ↓wp_or_1, ↓wp_and_cons, ↓wp_or_cons, ↓wo_cmpF, ↓wp_cmp, ↓wp_cmp2, ↓wp_ife, ↓wvs_nil, ↓wvs_cons, ↓wp_tup, ↓wp_lst, ↓wp_evs_nil, ↓wp_evs_cons, ↓wp_idx, ↓wp_oe_no, ↓wint_int, ↓wp_oe_so, ↓wp_slc, ↓wp_rev, ↓wp_by2, ↓wp_bi, ↓woA_b1, ↓woA_b2, ↓woA_bo, ↓wp_me, ↓wp_call, ↓wp_comp, ↓wp_popE, ↓wp_popV, ↓wp_compO, ↓wol_ow, ↓wp_it_seq, ↓wp_it_rng1, ↓wp_it_rng2, ↓wp_it_enum, ↓wp_it_zip2, ↓wp_it_rev, ↓wp_nm, ↓wp_tp, ↓wp_tpl, ↓wp_tp_nil, ↓wp_tp_cons, ↓wp_W_lst, ↓wp_W_lst2, ↓wp_Ws_nil, ↓wp_Ws_cons, ↓wls_l, ↓wp_W_slc, ↓wp_W_rev, ↓wp_W_bi, ↓wp_W_add, ↓wp_W_comp, ↓wp_W_call, ↓wp_W_ife, ↓wp_vM, ↓wp_s_nil, ↓wp_asg0, ↓wp_asgW, ↓wp_unp, ↓wp_aug, ↓wp_sto0, ↓wp_stoW, ↓wp_app0, ↓wp_appW, ↓wp_mc_reverse, ↓wp_mc_clear, ↓wp_mc_extend, ↓wp_sfrz, ↓wp_exp, ↓wp_ret0, ↓wp_retW, ↓wp_reto, ↓wp_retn, ↓wp_ite, ↓wp_for, ↓wp_whl, ↓wp_brk, ↓wp_cnt, ↓wp_pas, ↓wp_ebad, ↓wp_sbad, ↓wdc_v, ↓wdc_o, ↓wp_dget, ↓wp_dget2, ↓woA_3, ↓woA_o3, ↓woA_b3, ↓wp_dct, ↓wp_it_zipS, ↓wp_par, ↓wp_tryN, ↓wp_parL_nil, ↓wp_parL_cons, ↓b_mult, ↓b_mulli, ↓c_isb, ↓c_isnb, ↓c_insg, ↓c_ninsg, ↓i_dict, ↓d_get1, ↓d_get2, ↓f_all, ↓f_any, ↓f_max3, ↓f_min3, ↓f_divmod, ↓f_strs, ↓f_sorted, ↓f_srtK, ↓f_sortR, ↓f_lenset, ↓f_lrg, ↓f_lrg2, ↓f_dict, ↓r_tup, ↓q_zll, ↓q_ztt, ↓q_zsl, ↓q_zst, ↓wo_some, ↓wv_val, ↓wb_bool, ↓wsh_sh, ↓wow_ow, ↓wif_t, ↓wif_f, ↓wif_d, ↓wif_n, ↓wif_and, ↓wif_or, ↓wnx_nx, ↓wnx_rt, ↓wnx_bk, ↓wnx_ct, ↓wtn_nx, ↓wtn_ct, ↓wtn_bk, ↓wtn_rt, ↓wrl_ow, ↓wfin_rt, ↓wfin_nx, ↓wp_forL_nil, ↓b_add, ↓b_muls, ↓b_sub, ↓b_mull, ↓b_mulr, ↓b_mul, ↓b_fdivp, ↓b_fdiv, ↓b_modp, ↓b_mod, ↓b_pow, ↓b_adds, ↓b_addl, ↓b_addt, ↓n_int, ↓c_eqi, ↓c_nei, ↓c_eqs, ↓c_nes, ↓c_lt, ↓c_le, ↓c_gt, ↓c_ge, ↓c_is, ↓c_isn, ↓c_int, ↓c_inl, ↓c_nint, ↓c_ninl, ↓i_list, ↓i_tup, ↓i_str, ↓wat_map, ↓wat_0, ↓wat_1, ↓wat_2, ↓wat_3, ↓wat_4, ↓wat_5, ↓wat_6, ↓wat_7, ↓wat_8, ↓s_0, ↓s_1, ↓s_2, ↓s_3, ↓s_4, ↓s_5, ↓a_list, ↓e_list, ↓m_reverse, ↓m_clear, ↓g_add, ↓g_sub, ↓f_lenl, ↓f_lent, ↓f_lens, ↓f_abs, ↓f_max, ↓f_min, ↓f_minD, ↓f_maxD, ↓f_zfill, ↓f_intb, ↓f_int, ↓f_tupl, ↓f_tupt, ↓f_lstl, ↓f_lstt, ↓f_isa, ↓f_repr, ↓f_str, ↓f_sset, ↓q_list, ↓q_tup, ↓q_enl, ↓q_ent, ↓q_revl, ↓q_revt, ↓l_list, ↓l_tup, ↓l_str, ↓r_list, ↓y_by2, ↓wrng_0, isA_ss, isA_ll, isA_tt, rootBi, freshBi, meT, sline_num, eqv_ss, eqv_ii, List.any_cons, List.any_nil, Bool.or_false, we_eq, wo_some, wsh_sh, wow_ow, wrl_ow, List.getElem?_cons_succ, List.getElem?_cons_zero, List.set_cons_succ, List.set_cons_zero, List.length_cons, List.length_nil, List.length_map, List.map_cons, List.map_nil, wif_t, wif_f, wnx_nx, wnx_rt, frOk_int, frOk_str, frOk_bool, frOk_none, frOk_1, true_and, and_true, fillS, slotOf, ownSl, backS, finO, List.filterMap_cons, List.filterMap_nil, id, wo_map, List.nodup_cons, List.nodup_nil, List.not_mem_nil, not_false_eq_true, wcall, List.append_nil, List.nil_append, List.cons_append, ite_true, ite_false, if_true, if_false, wipe, putBack, shOf, List.foldr_cons, List.foldr_nil, beq_self_eq_true, Nat.reduceAdd, Nat.reduceLT, Nat.reduceLeDiff, Nat.reduceEqDiff, Nat.reduceSub, Nat.reduceMul, Nat.reducePow, Int.reducePow, Int.reduceToNat, Int.reduceLT, Int.reduceLE, Int.reduceNe, Int.reduceEq, Int.reduceNeg, Int.reduceAdd, Int.reduceSub, Int.reduceMul, List.replicate, ne_eq, not_true_eq_false, false_and, and_false, or_true, true_or, hm]
    refine hr _ _ _ ?_
    clear hn hr hb hc
    refine hr _ _ _ ?_
    clear hn hr hb hc
    walk_at "pv"
    exact fin _ _ _ (by omega) (by omega) (Int.ediv_nonneg (by split <;> omega) (by omega))
  simp only [↓wp_bind, ↓wp_ret, ↓wp_ofO, ↓wp_rdS, ↓wp_rdO, ↓wp_wr, ↓wp_valM, ↓wp_boolM, ↓wp_bad, ↓wp_opM, ↓woA_o1, ↓woA_o2, ↓woA_2o, ↓wo_f1, ↓wo_f2, ↓wp_v1, ↓wp_lit, ↓wp_var, ↓wp_own, ↓wp_frz, ↓wp_glb, ↓wp_kidx, ↓wp_kin, ↓wp_bin, ↓wp_neg, ↓wp_tst, ↓wp_boolV, ↓wp_not, ↓wp_bo, ↓wp_and_nil, ↓wp_or_nil, ↓wp_and_1, ↓wp_or_1, ↓wp_and_cons, ↓wp_or_cons, ↓wo_cmpF, ↓wp_cmp, ↓wp_cmp2, ↓wp_ife, ↓wvs_nil, ↓wvs_cons, ↓wp_tup, ↓wp_lst, ↓wp_evs_nil, ↓wp_evs_cons, ↓wp_idx, ↓wp_oe_no, ↓wint_int, ↓wp_oe_so, ↓wp_slc, ↓wp_rev, ↓wp_by2, ↓wp_bi, ↓woA_b1, ↓woA_b2, ↓woA_bo, ↓wp_me, ↓wp_call, ↓wp_comp, ↓wp_popE, ↓wp_popV, ↓wp_compO, ↓wol_ow, ↓wp_it_seq, ↓wp_it_rng1, ↓wp_it_rng2, ↓wp_it_enum, ↓wp_it_zip2, ↓wp_it_rev, ↓wp_nm, ↓wp_tp, ↓wp_tpl, ↓wp_tp_nil, ↓wp_tp_cons, ↓wp_W_lst, ↓wp_W_lst2, ↓wp_Ws_nil, ↓wp_Ws_cons, ↓wls_l, ↓wp_W_slc, ↓wp_W_rev, ↓wp_W_bi, ↓wp_W_add, ↓wp_W_comp, ↓wp_W_call, ↓wp_W_ife, ↓wp_vM, ↓wp_s_nil, ↓wp_asg0, ↓wp_asgW, ↓wp_unp, ↓wp_aug, ↓wp_sto0, ↓wp_stoW, ↓wp_app0, ↓wp_appW, ↓wp_mc_reverse, ↓wp_mc_clear, ↓wp_mc_extend, ↓wp_sfrz, ↓wp_exp, ↓wp_ret0, ↓wp_retW, ↓wp_reto, ↓wp_retn, ↓wp_ite, ↓wp_for, ↓wp_whl, ↓wp_brk, ↓wp_cnt, ↓wp_pas, ↓wp_ebad, ↓wp_sbad, ↓wdc_v, ↓wdc_o, ↓wp_dget, ↓wp_dget2, ↓woA_3, ↓woA_o3, ↓woA_b3, ↓wp_dct, ↓wp_it_zipS, ↓wp_par, ↓wp_tryN, ↓wp_parL_nil, ↓wp_parL_cons, ↓b_mult, ↓b_mulli, ↓c_isb, ↓c_isnb, ↓c_insg, ↓c_ninsg, ↓i_dict, ↓d_get1, ↓d_get2, ↓f_all, ↓f_any, ↓f_max3, ↓f_min3, ↓f_divmod, ↓f_strs, ↓f_sorted, ↓f_srtK, ↓f_sortR, ↓f_lenset, ↓f_lrg, ↓f_lrg2, ↓f_dict, ↓r_tup, ↓q_zll, ↓q_ztt, ↓q_zsl, ↓q_zst, ↓wo_some, ↓wv_val, ↓wb_bool, ↓wsh_sh, ↓wow_ow, ↓wif_t, ↓wif_f, ↓wif_d, ↓wif_n, ↓wif_and, ↓wif_or, ↓wnx_nx, ↓wnx_rt, ↓wnx_bk, ↓wnx_ct, ↓wtn_nx, ↓wtn_ct, ↓wtn_bk, ↓wtn_rt, ↓wrl_ow, ↓wfin_rt, ↓wfin_nx, ↓wp_forL_nil, ↓b_add, ↓b_muls, ↓b_sub, ↓b_mull, ↓b_mulr, ↓b_mul, ↓b_fdivp, ↓b_fdiv, ↓b_modp, ↓b_mod, ↓b_pow, ↓b_adds, ↓b_addl, ↓b_addt, ↓n_int, ↓c_eqi, ↓c_nei, ↓c_eqs, ↓c_nes, ↓c_lt, ↓c_le, ↓c_gt, ↓c_ge, ↓c_is, ↓c_isn, ↓c_int, ↓c_inl, ↓c_nint, ↓c_ninl, ↓i_list, ↓i_tup, ↓i_str, ↓wat_map, ↓wat_0, ↓wat_1, ↓wat_2, ↓wat_3, ↓wat_4, ↓wat_5, ↓wat_6, ↓wat_7, ↓wat_8, ↓s_0, ↓s_1, ↓s_2, ↓s_3, ↓s_4, ↓s_5, ↓a_list, ↓e_list, ↓m_reverse, ↓m_clear, ↓g_add, ↓g_sub, ↓f_lenl, ↓f_lent, ↓f_lens, ↓f_abs, ↓f_max, ↓f_min, ↓f_minD, ↓f_maxD, ↓f_zfill, ↓f_intb, ↓f_int, ↓f_tupl, ↓f_tupt, ↓f_lstl, ↓f_lstt, ↓f_isa, ↓f_repr, ↓f_str, ↓f_sset, ↓q_list, ↓q_tup, ↓q_enl, ↓q_ent, ↓q_revl, ↓q_revt, ↓l_list, ↓l_tup, ↓l_str, ↓r_list, ↓y_by2, ↓wrng_0, isA_ss, isA_ll, isA_tt, rootBi, freshBi, meT, sline_num, eqv_ss, eqv_ii, List.any_cons, List.any_nil, Bool.or_false, we_eq, wo_some, wsh_sh, wow_ow, wrl_ow, List.getElem?_cons_succ, List.getElem?_cons_zero, List.set_cons_succ, List.set_cons_zero, List.length_cons, List.length_nil, List.length_map, List.map_cons, List.map_nil, wif_t, wif_f, wnx_nx, wnx_rt, frOk_int, frOk_str, frOk_bool, frOk_none, frOk_1, true_and, and_true, fillS, slotOf, ownSl, backS, finO, List.filterMap_cons, List.filterMap_nil, id, wo_map, List.nodup_cons, List.nodup_nil, List.not_mem_nil, not_false_eq_true, wcall, List.append_nil, List.nil_append, List.cons_append, ite_true, ite_false, if_true, if_false, wipe, putBack, shOf, List.foldr_cons, List.foldr_nil, beq_self_eq_true, Nat.reduceAdd, Nat.reduceLT, Nat.reduceLeDiff, Nat.reduceEqDiff, Nat.reduceSub, Nat.reduceMul, Nat.reducePow, Int.reducePow, Int.reduceToNat, Int.reduceLT, Int.reduceLE, Int.reduceNe, Int.reduceEq, Int.reduceNeg, Int.reduceAdd, Int.reduceSub, Int.reduceMul, List.replicate, ne_eq, not_true_eq_false, false_and, and_false, or_true, true_or, ne_nil]
  refine ⟨fun hl => ?_, fun hl => go _⟩
  refine s_cut fun K hn hr hb hc => ?_
  have hl2 : (0 : Int) < (c.length : Int) := by omega
  simp only [↓wp_bind, ↓wp_ret, ↓wp_ofO, ↓wp_rdS, ↓wp_rdO, ↓wp_wr, ↓wp_valM, ↓wp_boolM, ↓wp_bad, ↓wp_opM, ↓woA_o1, ↓woA_o2, ↓woA_2o, ↓wo_f1, ↓wo_f2, ↓wp_v1, ↓wp_lit, ↓wp_var, ↓wp_own, ↓wp_frz, ↓wp_glb, ↓wp_kidx, ↓wp_kin, ↓wp_bin, ↓wp_neg, ↓wp_tst, ↓wp_boolV, ↓wp_not, ↓wp_bo, ↓wp_and_nil, ↓wp_or_nil, ↓wp_and_1, ↓wp_or_1, ↓wp_and_cons, ↓wp_or_cons, ↓wo_cmpF, ↓wp_cmp, ↓wp_cmp2, ↓wp_ife, ↓wvs_nil, ↓wvs_cons, ↓wp_tup, ↓wp_lst, ↓wp_evs_nil, ↓wp_evs_cons, ↓wp_idx, ↓wp_oe_no, ↓wint_int, ↓wp_oe_so, ↓wp_slc, ↓wp_rev, ↓wp_by2, ↓wp_bi, ↓woA_b1, ↓woA_b2, ↓woA_bo, ↓wp_me, ↓wp_call, ↓wp_comp, ↓wp_popE, ↓wp_popV, ↓wp_compO, ↓wol_ow, ↓wp_it_seq, ↓wp_it_rng1, ↓wp_it_rng2, ↓wp_it_enum, ↓wp_it_zip2, ↓wp_it_rev, ↓wp_nm, ↓wp_tp, ↓wp_tpl, ↓wp_tp_nil, ↓wp_tp_cons, ↓wp_W_lst, ↓wp_W_lst2, ↓wp_Ws_nil, ↓wp_Ws_cons, ↓wls_l, ↓wp_W_slc, ↓wp_W_rev, ↓wp_W_bi, ↓wp_W_add, ↓wp_W_comp, ↓wp_W_call, ↓wp_W_ife, ↓wp_vM, ↓wp_s_nil, ↓wp_asg0, ↓wp_asgW, ↓wp_unp, ↓wp_aug, ↓wp_sto0, ↓wp_stoW, ↓wp_app0, ↓wp_appW, ↓wp_mc_reverse, ↓wp_mc_clear, ↓wp_mc_extend, ↓wp_sfrz, ↓wp_exp, ↓wp_ret0, ↓wp_retW, ↓wp_reto, ↓wp_retn, ↓wp_ite, ↓wp_for, ↓wp_whl, ↓wp_brk, ↓wp_cnt, ↓wp_pas, ↓wp_ebad, ↓wp_sbad, ↓wdc_v, ↓wdc_o, ↓wp_dget, ↓wp_dget2, ↓woA_3, ↓woA_o3, ↓woA_b3, ↓wp_dct, ↓wp_it_zipS, ↓wp_par, ↓wp_tryN, ↓wp_parL_nil, ↓wp_parL_cons, ↓b_mult, ↓b_mulli, ↓c_isb, ↓c_isnb, ↓c_insg, ↓c_ninsg, ↓i_dict, ↓d_get1, ↓d_get2, ↓f_all, ↓f_any, ↓f_max3, ↓f_min3, ↓f_divmod, ↓f_strs, ↓f_sorted, ↓f_srtK, ↓f_sortR, ↓f_lenset, ↓f_lrg, ↓f_lrg2, ↓f_dict, ↓r_tup, ↓q_zll, ↓q_ztt, ↓q_zsl, ↓q_zst, ↓wo_some, ↓wv_val, ↓wb_bool, ↓wsh_sh, ↓wow_ow, ↓wif_t, ↓wif_f, ↓wif_d, ↓wif_n, ↓wif_and, ↓wif_or, ↓wnx_nx, ↓wnx_rt, ↓wnx_bk, ↓wnx_ct, ↓wtn_nx, ↓wtn_ct, ↓wtn_bk, ↓wtn_rt, ↓wrl_ow, ↓wfin_rt, ↓wfin_nx, ↓wp_forL_nil, ↓b_add, ↓b_muls, ↓b_sub, ↓b_mull, ↓b_mulr, ↓b_mul, ↓b_fdivp, ↓b_fdiv, ↓b_modp, ↓b_mod, ↓b_pow, ↓b_adds, ↓b_addl, ↓b_addt, ↓n_int, ↓c_eqi, ↓c_nei, ↓c_eqs, ↓c_nes, ↓c_lt, ↓c_le, ↓c_gt, ↓c_ge, ↓c_is, ↓c_isn, ↓c_int, ↓c_inl, ↓c_nint, ↓c_ninl, ↓i_list, ↓i_tup, ↓i_str, ↓wat_map, ↓wat_0, ↓wat_1, ↓wat_2, ↓wat_3, ↓wat_4, ↓wat_5, ↓wat_6, ↓wat_7, ↓wat_8, ↓s_0, ↓s_1, ↓s_2, ↓s_3, ↓s_4, ↓s_5, ↓a_list, ↓e_list, ↓m_reverse, ↓m_clear, ↓g_add, ↓g_sub, ↓f_lenl, ↓f_lent, ↓f_lens, ↓f_abs, ↓f_max, ↓f_min, ↓f_minD, ↓f_maxD, ↓f_zfill, ↓f_intb, ↓f_int, ↓f_tupl, ↓f_tupt, ↓f_lstl, ↓f_lstt, ↓f_isa, ↓f_repr, ↓f_str, ↓f_sset, ↓q_list, ↓q_tup, ↓q_enl, ↓q_ent, ↓q_revl, ↓q_revt, ↓l_list, ↓l_tup, ↓l_str, ↓r_list, ↓y_by2, ↓wrng_0, isA_ss, isA_ll, isA_tt, rootBi, freshBi, meT, sline_num, eqv_ss, eqv_ii, List.any_cons, List.any_nil, Bool.or_false, we_eq, wo_some, wsh_sh, wow_ow, wrl_ow, List.getElem?_cons_succ, List.getElem?_cons_zero, List.set_cons_succ, List.set_cons_zero, List.length_cons, List.length_nil, List.length_map, List.map_cons, List.map_nil, wif_t, wif_f, wnx_nx, wnx_rt, frOk_int, frOk_str, frOk_bool, frOk_none, frOk_1, true_and, and_true, fillS, slotOf, ownSl, backS, finO, List.filterMap_cons, List.filterMap_nil, id, wo_map, List.nodup_cons, List.nodup_nil, List.not_mem_nil, not_false_eq_true, wcall, List.append_nil, List.nil_append, List.cons_append, ite_true, ite_false, if_true, if_false, wipe, putBack, shOf, List.foldr_cons, List.foldr_nil, beq_self_eq_true, Nat.reduceAdd, Nat.reduceLT, Nat.reduceLeDiff, Nat.reduceEqDiff, Nat.reduceSub, Nat.reduceMul, Nat.reducePow, Int.reducePow, Int.reduceToNat, Int.reduceLT, Int.reduceLE, Int.reduceNe, Int.reduceEq, Int.reduceNeg, Int.reduceAdd, Int.reduceSub, Int.reduceMul, List.replicate, ne_eq, not_true_eq_false, false_and, and_false, or_true, true_or, hl2]
  refine wat_of (Int.emod_nonneg _ (by omega)) (Int.emod_lt_of_pos _ hl2) fun x hx => ?_
  refine hn _ ?_
  walk_at "pv"
  exact go _

/-! minutes, orders, names, of any thing -/
abbrev cN (k : Nat) : Cn := ⟨prog.G, prog.W, run prog k⟩
def isWhole : D → Bool
  | .int _ => true
  | _ => false
def fromTo (lo hi : Int) : D → Bool
  | .int i => decide (lo ≤ i) && decide (i ≤ hi)
  | _ => false
theorem isA_int (d : D) : isA d "int" = (match d with | .int _ => true | .bool _ => true | _ => false) := by cases d <;> with_unfolding_all rfl
theorem isA_bool (d : D) : isA d "bool" = (match d with | .bool _ => true | _ => false) := by cases d <;> with_unfolding_all rfl
theorem isA_str (d : D) : isA d "str" = (match d with | .str _ => true | _ => false) := by cases d <;> with_unfolding_all rfl
theorem isA_tuple (d : D) : isA d "tuple" = (match d with | .tuple _ => true | _ => false) := by cases d <;> with_unfolding_all rfl
theorem sp_whole (k : Nat) (d : D) : wc (run prog (k + 1) F_is_whole [.sh d]) fun m d' o => m = 0 ∧ d' = .bool (isWhole d) ∧ o = [.sh d] := by
  refine wc_run (F := T_is_whole) rfl rfl ?_
  unfold T_is_whole
  walk_at "pv"
  refine s_cut fun K hn hr hb hc => ?_
  have fin : ∀ b, isWhole d = b → K (.rt 0 (.bool b)) [.sh d] := fun b hq => by
    refine hr _ _ _ ?_
    clear hn hr hb hc
    walk_at "pv"
    rw [hq]
  simp only [↓wp_bind, ↓wp_ret, ↓wp_ofO, ↓wp_rdS, ↓wp_rdO, ↓wp_wr, ↓wp_valM, ↓wp_boolM, ↓wp_bad, ↓wp_opM, ↓woA_o1, ↓woA_o2, ↓woA_2o, ↓wo_f1, ↓wo_f2, ↓wp_v1, ↓wp_lit, ↓wp_var, ↓wp_own, ↓wp_frz, ↓wp_glb, ↓wp_kidx, ↓wp_kin, ↓wp_bin, ↓wp_neg, ↓wp_tst, ↓wp_boolV, ↓wp_not, ↓wp_bo, ↓wp_and_nil, ↓wp_or_nil, ↓wp_and_1, ↓wp_or_1, ↓wp_and_cons, ↓wp_or_cons, ↓wo_cmpF, ↓wp_cmp, ↓wp_cmp2, ↓wp_ife, ↓wvs_nil, ↓wvs_cons, ↓wp_tup, ↓wp_lst, ↓wp_evs_nil, ↓wp_evs_cons, ↓wp_idx, ↓wp_oe_no, ↓wint_int, ↓wp_oe_so, ↓wp_slc, ↓wp_rev, ↓wp_by2, ↓wp_bi, ↓woA_b1, ↓woA_b2, ↓woA_bo, ↓wp_me, ↓wp_call, ↓wp_comp, ↓wp_popE, ↓wp_popV, ↓wp_compO, ↓wol_ow, ↓wp_it_seq, ↓wp_it_rng1, ↓wp_it_rng2, ↓wp_it_enum, ↓wp_it_zip2, ↓wp_it_rev, ↓wp_nm, ↓wp_tp, ↓wp_tpl, ↓wp_tp_nil, ↓wp_tp_cons, ↓wp_W_lst, ↓wp_W_lst2, ↓wp_Ws_nil, ↓wp_Ws_cons, ↓wls_l, ↓wp_W_slc, ↓wp_W_rev, ↓wp_W_bi, ↓wp_W_add, ↓wp_W_comp, ↓wp_W_call, ↓wp_W_ife, ↓wp_vM, ↓wp_s_nil, ↓wp_asg0, ↓wp_asgW, ↓wp_unp, ↓wp_aug, ↓wp_sto0, ↓wp_stoW, ↓wp_app0, ↓wp_appW, ↓wp_mc_reverse, ↓wp_mc_clear, ↓wp_mc_extend, ↓wp_sfrz, ↓wp_exp, ↓wp_ret0, ↓wp_retW, ↓wp_reto, ↓wp_retn, ↓wp_ite, ↓wp_for, ↓wp_whl, ↓wp_brk, ↓wp_cnt, ↓wp_pas, ↓wp_ebad, ↓wp_sbad, ↓wdc_v, ↓wdc_o, ↓wp_dget, ↓wp_dget2, ↓woA_3, ↓woA_o3, ↓woA_b3, ↓wp_dct, ↓wp_it_zipS, ↓wp_par, ↓wp_tryN, ↓wp_parL_nil, ↓wp_parL_cons, ↓b_mult, ↓b_mulli, ↓c_isb, ↓c_isnb, ↓c_insg, ↓c_ninsg, ↓i_dict, ↓d_get1, ↓d_get2, ↓f_all, ↓f_any, ↓f_max3, ↓f_min3, ↓f_divmod, ↓f_strs, ↓f_sorted, ↓f_srtK, ↓f_sortR, ↓f_lenset, ↓f_lrg, ↓f_lrg2, ↓f_dict, ↓r_tup, ↓q_zll, ↓q_ztt, ↓q_zsl, ↓q_zst, ↓wo_some, ↓wv_val, ↓wb_bool, ↓wsh_sh, ↓wow_ow, ↓wif_t, ↓wif_f, ↓wif_d, ↓wif_n, ↓wif_and, ↓wif_or, ↓wnx_nx, ↓wnx_rt, ↓wnx_bk, ↓wnx_ct, ↓wtn_nx, ↓wtn_ct, ↓wtn_bk, ↓wtn_rt, ↓wrl_ow, ↓wfin_rt, ↓wfin_nx, ↓wp_forL_nil, ↓b_add, ↓b_muls, ↓b_sub, ↓b_mull, ↓b_mulr, ↓b_mul, ↓b_fdivp, ↓b_fdiv, ↓b_modp, ↓b_mod, ↓b_pow, ↓b_adds, ↓b_addl, ↓b_addt, ↓n_int, ↓c_eqi, ↓c_nei, ↓c_eqs, ↓c_nes, ↓c_lt, ↓c_le, ↓c_gt, ↓c_ge, ↓c_is, ↓c_isn, ↓c_int, ↓c_inl, ↓c_nint, ↓c_ninl, ↓i_list, ↓i_tup, ↓i_str, ↓wat_map, ↓wat_0, ↓wat_1, ↓wat_2, ↓wat_3, ↓wat_4, ↓wat_5, ↓wat_6, ↓wat_7, ↓wat_8, ↓s_0, ↓s_1, ↓s_2, ↓s_3, ↓s_4, ↓s_5, ↓a_list, ↓e_list, ↓m_reverse, ↓m_clear, ↓g_add, ↓g_sub, ↓f_lenl, ↓f_lent, ↓f_lens, ↓f_abs, ↓f_max, ↓f_min, ↓f_minD, ↓f_maxD, ↓f_zfill, ↓f_intb, ↓f_int, ↓f_tupl, ↓f_tupt, ↓f_lstl, ↓f_lstt, ↓f_isa, ↓f_repr, ↓f_str, ↓f_sset, ↓q_list, ↓q_tup, ↓q_enl, ↓q_ent, ↓q_revl, ↓q_revt, ↓l_list, ↓l_tup, ↓l_str, ↓r_list, ↓y_by2, ↓wrng_0, isA_ss, isA_ll, isA_tt, rootBi, freshBi, meT, sline_num, eqv_ss, eqv_ii, List.any_cons, List.any_nil, Bool.or_false, we_eq, wo_some, wsh_sh, wow_ow, wrl_ow, List.getElem?_cons_succ, List.getElem?_cons_zero, List.set_cons_succ, List.set_cons_zero, List.length_cons, List.length_nil, List.length_map, List.map_cons, List.map_nil, wif_t, wif_f, wnx_nx, wnx_rt, frOk_int, frOk_str, frOk_bool, frOk_none, frOk_1, true_and, and_true, fillS, slotOf, ownSl, backS, finO, List.filterMap_cons, List.filterMap_nil, id, wo_map, List.nodup_cons, List.nodup_nil, List.not_mem_nil, not_false_eq_true, wcall, List.append_nil, List.nil_append, List.cons_append, ite_true, ite_false, if_true, if_false, wipe, putBack, shOf, List.foldr_cons, List.foldr_nil, beq_self_eq_true, Nat.reduceAdd, Nat.reduceLT, Nat.reduceLeDiff, Nat.reduceEqDiff, Nat.reduceSub, Nat.reduceMul, Nat.reducePow, Int.reducePow, Int.reduceToNat, Int.reduceLT, Int.reduceLE, Int.reduceNe, Int.reduceEq, Int.reduceNeg, Int.reduceAdd, Int.reduceSub, Int.reduceMul, List.replicate, ne_eq, not_true_eq_false, false_and, and_false, or_true, true_or, isA_int, isA_bool]
  cases d <;> first | exact fin _ rfl | (walk_at "pv"; exact fin _ rfl)
theorem sp_from_to (k : Nat) (d : D) (lo hi : Int) : wc (run prog (k + 2) F_is_from_to [.sh d, .sh (.int lo), .sh (.int hi)]) fun m d' o => m = 0 ∧ d' = .bool (fromTo lo hi d) ∧ o = [.sh d, .sh (.int lo), .sh (.int hi)] := by
  refine wc_run (F := T_is_from_to) rfl rfl ?_
  unfold T_is_from_to
  walk_at "pv"
  refine s_cut fun K hn hr hb hc => ?_
  walk_at "pv"
  refine wc_mono (sp_whole k d) fun m d' o h => ?_
  obtain ⟨rfl, rfl, rfl⟩ := h
  have fin : ∀ b, fromTo lo hi d = b → K (.rt 0 (.bool b)) [.sh d, .sh (.int lo), .sh (.int hi)] := fun b hq => by
    refine hr _ _ _ ?_
    clear hn hr hb hc
    walk_at "pv"
    rw [hq]
  cases d with
  | int i =>
    rw [show isWhole (.int i) = true from rfl]
    walk_at "pv"
    exact ⟨fun h => fin _ (by simp [fromTo, h]), fun h => fin _ (by simp [fromTo, h])⟩
  | _ =>
    simp only [↓wp_bind, ↓wp_ret, ↓wp_ofO, ↓wp_rdS, ↓wp_rdO, ↓wp_wr, ↓wp_valM, ↓wp_boolM, ↓wp_bad, ↓wp_opM, ↓woA_o1, ↓woA_o2, ↓woA_2o, ↓wo_f1, ↓wo_f2, ↓wp_v1, ↓wp_lit, ↓wp_var, ↓wp_own, ↓wp_frz, ↓wp_glb, ↓wp_kidx, ↓wp_kin, ↓wp_bin, ↓wp_neg, ↓wp_tst, ↓wp_boolV, ↓wp_not, ↓wp_bo, ↓wp_and_nil, ↓wp_or_nil, ↓wp_and_1, ↓wp_or_1, ↓wp_and_cons, ↓wp_or_cons, ↓wo_cmpF, ↓wp_cmp, ↓wp_cmp2, ↓wp_ife, ↓wvs_nil, ↓wvs_cons, ↓wp_tup, ↓wp_lst, ↓wp_evs_nil, ↓wp_evs_cons, ↓wp_idx, ↓wp_oe_no, ↓wint_int, ↓wp_oe_so, ↓wp_slc, ↓wp_rev, ↓wp_by2, ↓wp_bi, ↓woA_b1, ↓woA_b2, ↓woA_bo, ↓wp_me, ↓wp_call, ↓wp_comp, ↓wp_popE, ↓wp_popV, ↓wp_compO, ↓wol_ow, ↓wp_it_seq, ↓wp_it_rng1, ↓wp_it_rng2, ↓wp_it_enum, ↓wp_it_zip2, ↓wp_it_rev, ↓wp_nm, ↓wp_tp, ↓wp_tpl, ↓wp_tp_nil, ↓wp_tp_cons, ↓wp_W_lst, ↓wp_W_lst2, ↓wp_Ws_nil, ↓wp_Ws_cons, ↓wls_l, ↓wp_W_slc, ↓wp_W_rev, ↓wp_W_bi, ↓wp_W_add, ↓wp_W_comp, ↓wp_W_call, ↓wp_W_ife, ↓wp_vM, ↓wp_s_nil, ↓wp_asg0, ↓wp_asgW, ↓wp_unp, ↓wp_aug, ↓wp_sto0, ↓wp_stoW, ↓wp_app0, ↓wp_appW, ↓wp_mc_reverse, ↓wp_mc_clear, ↓wp_mc_extend, ↓wp_sfrz, ↓wp_exp, ↓wp_ret0, ↓wp_retW, ↓wp_reto, ↓wp_retn, ↓wp_ite, ↓wp_for, ↓wp_whl, ↓wp_brk, ↓wp_cnt, ↓wp_pas, ↓wp_ebad, ↓wp_sbad, ↓wdc_v, ↓wdc_o, ↓wp_dget, ↓wp_dget2, ↓woA_3, ↓woA_o3, ↓woA_b3, ↓wp_dct, ↓wp_it_zipS, ↓wp_par, ↓wp_tryN, ↓wp_parL_nil, ↓wp_parL_cons, ↓b_mult, ↓b_mulli, ↓c_isb, ↓c_isnb, ↓c_insg, ↓c_ninsg, ↓i_dict, ↓d_get1, ↓d_get2, ↓f_all, ↓f_any, ↓f_max3, ↓f_min3, ↓f_divmod, ↓f_strs, ↓f_sorted, ↓f_srtK, ↓f_sortR, ↓f_lenset, ↓f_lrg, ↓f_lrg2, ↓f_dict, ↓r_tup, ↓q_zll, ↓q_ztt, ↓q_zsl, ↓q_zst, ↓wo_some, ↓wv_val, ↓wb_bool, ↓wsh_sh, ↓wow_ow, ↓wif_t, ↓wif_f, ↓wif_d, ↓wif_n, ↓wif_and, ↓wif_or, ↓wnx_nx, ↓wnx_rt, ↓wnx_bk, ↓wnx_ct, ↓wtn_nx, ↓wtn_ct, ↓wtn_bk, ↓wtn_rt, ↓wrl_ow, ↓wfin_rt, ↓wfin_nx, ↓wp_forL_nil, ↓b_add, ↓b_muls, ↓b_sub, ↓b_mull, ↓b_mulr, ↓b_mul, ↓b_fdivp, ↓b_fdiv, ↓b_modp, ↓b_mod, ↓b_pow, ↓b_adds, ↓b_addl, ↓b_addt, ↓n_int, ↓c_eqi, ↓c_nei, ↓c_eqs, ↓c_nes, ↓c_lt, ↓c_le, ↓c_gt, ↓c_ge, ↓c_is, ↓c_isn, ↓c_int, ↓c_inl, ↓c_nint, ↓c_ninl, ↓i_list, ↓i_tup, ↓i_str, ↓wat_map, ↓wat_0, ↓wat_1, ↓wat_2, ↓wat_3, ↓wat_4, ↓wat_5, ↓wat_6, ↓wat_7, ↓wat_8, ↓s_0, ↓s_1, ↓s_2, ↓s_3, ↓s_4, ↓s_5, ↓a_list, ↓e_list, ↓m_reverse, ↓m_clear, ↓g_add, ↓g_sub, ↓f_lenl, ↓f_lent, ↓f_lens, ↓f_abs, ↓f_max, ↓f_min, ↓f_minD, ↓f_maxD, ↓f_zfill, ↓f_intb, ↓f_int, ↓f_tupl, ↓f_tupt, ↓f_lstl, ↓f_lstt, ↓f_isa, ↓f_repr, ↓f_str, ↓f_sset, ↓q_list, ↓q_tup, ↓q_enl, ↓q_ent, ↓q_revl, ↓q_revt, ↓l_list, ↓l_tup, ↓l_str, ↓r_list, ↓y_by2, ↓wrng_0, isA_ss, isA_ll, isA_tt, rootBi, freshBi, meT, sline_num, eqv_ss, eqv_ii, List.any_cons, List.any_nil, Bool.or_false, we_eq, wo_some, wsh_sh, wow_ow, wrl_ow, List.getElem?_cons_succ, List.getElem?_cons_zero, List.set_cons_succ, List.set_cons_zero, List.length_cons, List.length_nil, List.length_map, List.map_cons, List.map_nil, wif_t, wif_f, wnx_nx, wnx_rt, frOk_int, frOk_str, frOk_bool, frOk_none, frOk_1, true_and, and_true, fillS, slotOf, ownSl, backS, finO, List.filterMap_cons, List.filterMap_nil, id, wo_map, List.nodup_cons, List.nodup_nil, List.not_mem_nil, not_false_eq_true, wcall, List.append_nil, List.nil_append, List.cons_append, ite_true, ite_false, if_true, if_false, wipe, putBack, shOf, List.foldr_cons, List.foldr_nil, beq_self_eq_true, Nat.reduceAdd, Nat.reduceLT, Nat.reduceLeDiff, Nat.reduceEqDiff, Nat.reduceSub, Nat.reduceMul, Nat.reducePow, Int.reducePow, Int.reduceToNat, Int.reduceLT, Int.reduceLE, Int.reduceNe, Int.reduceEq, Int.reduceNeg, Int.reduceAdd, Int.reduceSub, Int.reduceMul, List.replicate, ne_eq, not_true_eq_false, false_and, and_false, or_true, true_or, isWhole]
    exact fin _ rfl
theorem sp_minute (k : Nat) (d : D) : wc (run prog (k + 3) F_is_minute [.sh d]) fun m d' o => m = 0 ∧ d' = .bool (fromTo 0 99999 d) ∧ o = [.sh d] := by
  refine wc_run (F := T_is_minute) rfl rfl ?_
  unfold T_is_minute
  walk_at "pv"
  refine s_cut fun K hn hr hb hc => ?_
  walk_at "pv"
  rw [show prog.G[G_MOST_MINUTE]? = some (.int 99999) from rfl, wo_some]
  refine wc_mono (sp_from_to k d 0 99999) fun m d' o h => ?_
  obtain ⟨rfl, rfl, rfl⟩ := h
  walk_at "pv"
  refine hr _ _ _ ?_
  clear hn hr hb hc
  walk_at "pv"
theorem sp_order (k : Nat) (d : D) : wc (run prog (k + 3) F_is_order [.sh d]) fun m d' o => m = 0 ∧ d' = .bool (fromTo (-4) 4 d) ∧ o = [.sh d] := by
  refine wc_run (F := T_is_order) rfl rfl ?_
  unfold T_is_order
  walk_at "pv"
  refine s_cut fun K hn hr hb hc => ?_
  walk_at "pv"
  rw [show prog.G[G_MOST_ORDER]? = some (.int 4) from rfl, wo_some]
  walk_at "pv"
  refine wc_mono (sp_from_to k d (-4) 4) fun m d' o h => ?_
  obtain ⟨rfl, rfl, rfl⟩ := h
  walk_at "pv"
  refine hr _ _ _ ?_
  clear hn hr hb hc
  walk_at "pv"
def nameS (s : Str) : Bool := decide (1 ≤ s.length ∧ s.length ≤ 8) && s.cps.toList.all fun c => decide (97 ≤ c ∧ c ≤ 122)
def nameD : D → Bool
  | .str s => nameS s
  | _ => false
def whatD (l : Str) (d : D) : Bool := if l = "down" ∨ l = "up" then nameD d else fromTo (-4) 4 d
def rowD : D → Bool
  | .tuple [a, .str l, c] => fromTo 0 99999 a && (decide (l ∈ (["port", "star", "down", "aport", "astar", "up"] : List Str)) && whatD l c)
  | _ => false
theorem letters_eq : (Str.ofString "abcdefghijklmnopqrstuvwxyz").cps.toList = (List.range 26).map (· + 97) := by decide +kernel
theorem letter_iff (c : Nat) : c ∈ (Str.ofString "abcdefghijklmnopqrstuvwxyz").cps.toList ↔ 97 ≤ c ∧ c ≤ 122 := by
  rw [letters_eq, List.mem_map]
  constructor
  · rintro ⟨n, hn, rfl⟩
    have := List.mem_range.mp hn
    omega
  · rintro ⟨h1, h2⟩
    exact ⟨c - 97, List.mem_range.mpr (by omega), by omega⟩
theorem sp_name (k : Nat) (d : D) (hsm : ∀ s, d = .str s → s.length ≤ 1000) : wc (run prog (k + 1) F_is_name [.sh d]) fun m d' o => m = 0 ∧ d' = .bool (nameD d) ∧ o = [.sh d] := by
  refine wc_run (F := T_is_name) rfl rfl ?_
  unfold T_is_name
  walk_at "pv"
  refine s_cut fun K hn hr hb hc => ?_
  have no : nameD d = false → wp (exs (cN k) B_is_name_0t0) [.sh d, .no] K := fun hq => by
    refine s_cut fun K hn hr hb hc => ?_
    walk_at "pv"
    refine hr _ _ _ ?_
    clear hn hr hb hc
    refine hr _ _ _ ?_
    clear hn hr hb hc
    walk_at "pv"
    rw [hq]
  simp only [↓wp_bind, ↓wp_ret, ↓wp_ofO, ↓wp_rdS, ↓wp_rdO, ↓wp_wr, ↓wp_valM, ↓wp_boolM, ↓wp_bad, ↓wp_opM, ↓woA_o1, ↓woA_o2, ↓woA_2o, ↓wo_f1, ↓wo_f2, ↓wp_v1, ↓wp_lit, ↓wp_var, ↓wp_own, ↓wp_frz, ↓wp_glb, ↓wp_kidx, ↓wp_kin, ↓wp_bin, ↓wp_neg, ↓wp_tst, ↓wp_boolV, ↓wp_not, ↓wp_bo, ↓wp_and_nil, ↓wp_or_nil, ↓wp_and_1, ↓wp_or_1, ↓wp_and_cons, ↓wp_or_cons, ↓wo_cmpF, ↓wp_cmp, ↓wp_cmp2, ↓wp_ife, ↓wvs_nil, ↓wvs_cons, ↓wp_tup, ↓wp_lst, ↓wp_evs_nil, ↓wp_evs_cons, ↓wp_idx, ↓wp_oe_no, ↓wint_int, ↓wp_oe_so, ↓wp_slc, ↓wp_rev, ↓wp_by2, ↓wp_bi, ↓woA_b1, ↓woA_b2, ↓woA_bo, ↓wp_me, ↓wp_call, ↓wp_comp, ↓wp_popE, ↓wp_popV, ↓wp_compO, ↓wol_ow, ↓wp_it_seq, ↓wp_it_rng1, ↓wp_it_rng2, ↓wp_it_enum, ↓wp_it_zip2, ↓wp_it_rev, ↓wp_nm, ↓wp_tp, ↓wp_tpl, ↓wp_tp_nil, ↓wp_tp_cons, ↓wp_W_lst, ↓wp_W_lst2, ↓wp_Ws_nil, ↓wp_Ws_cons, ↓wls_l, ↓wp_W_slc, ↓wp_W_rev, ↓wp_W_bi, ↓wp_W_add, ↓wp_W_comp, ↓wp_W_call, ↓wp_W_ife, ↓wp_vM, ↓wp_s_nil, ↓wp_asg0, ↓wp_asgW, ↓wp_unp, ↓wp_aug, ↓wp_sto0, ↓wp_stoW, ↓wp_app0, ↓wp_appW, ↓wp_mc_reverse, ↓wp_mc_clear, ↓wp_mc_extend, ↓wp_sfrz, ↓wp_exp, ↓wp_ret0, ↓wp_retW, ↓wp_reto, ↓wp_retn, ↓wp_ite, ↓wp_for, ↓wp_whl, ↓wp_brk, ↓wp_cnt, ↓wp_pas, ↓wp_ebad, ↓wp_sbad, ↓wdc_v, ↓wdc_o, ↓wp_dget, ↓wp_dget2, ↓woA_3, ↓woA_o3, ↓woA_b3, ↓wp_dct, ↓wp_it_zipS, ↓wp_par, ↓wp_tryN, ↓wp_parL_nil, ↓wp_parL_cons, ↓b_mult, ↓b_mulli, ↓c_isb, ↓c_isnb, ↓c_insg, ↓c_ninsg, ↓i_dict, ↓d_get1, ↓d_get2, ↓f_all, ↓f_any, ↓f_max3, ↓f_min3, ↓f_divmod, ↓f_strs, ↓f_sorted, ↓f_srtK, ↓f_sortR, ↓f_lenset, ↓f_lrg, ↓f_lrg2, ↓f_dict, ↓r_tup, ↓q_zll, ↓q_ztt, ↓q_zsl, ↓q_zst, ↓wo_some, ↓wv_val, ↓wb_bool, ↓wsh_sh, ↓wow_ow, ↓wif_t, ↓wif_f, ↓wif_d, ↓wif_n, ↓wif_and, ↓wif_or, ↓wnx_nx, ↓wnx_rt, ↓wnx_bk, ↓wnx_ct, ↓wtn_nx, ↓wtn_ct, ↓wtn_bk, ↓wtn_rt, ↓wrl_ow, ↓wfin_rt, ↓wfin_nx, ↓wp_forL_nil, ↓b_add, ↓b_muls, ↓b_sub, ↓b_mull, ↓b_mulr, ↓b_mul, ↓b_fdivp, ↓b_fdiv, ↓b_modp, ↓b_mod, ↓b_pow, ↓b_adds, ↓b_addl, ↓b_addt, ↓n_int, ↓c_eqi, ↓c_nei, ↓c_eqs, ↓c_nes, ↓c_lt, ↓c_le, ↓c_gt, ↓c_ge, ↓c_is, ↓c_isn, ↓c_int, ↓c_inl, ↓c_nint, ↓c_ninl, ↓i_list, ↓i_tup, ↓i_str, ↓wat_map, ↓wat_0, ↓wat_1, ↓wat_2, ↓wat_3, ↓wat_4, ↓wat_5, ↓wat_6, ↓wat_7, ↓wat_8, ↓s_0, ↓s_1, ↓s_2, ↓s_3, ↓s_4, ↓s_5, ↓a_list, ↓e_list, ↓m_reverse, ↓m_clear, ↓g_add, ↓g_sub, ↓f_lenl, ↓f_lent, ↓f_lens, ↓f_abs, ↓f_max, ↓f_min, ↓f_minD, ↓f_maxD, ↓f_zfill, ↓f_intb, ↓f_int, ↓f_tupl, ↓f_tupt, ↓f_lstl, ↓f_lstt, ↓f_isa, ↓f_repr, ↓f_str, ↓f_sset, ↓q_list, ↓q_tup, ↓q_enl, ↓q_ent, ↓q_revl, ↓q_revt, ↓l_list, ↓l_tup, ↓l_str, ↓r_list, ↓y_by2, ↓wrng_0, isA_ss, isA_ll, isA_tt, rootBi, freshBi, meT, sline_num, eqv_ss, eqv_ii, List.any_cons, List.any_nil, Bool.or_false, we_eq, wo_some, wsh_sh, wow_ow, wrl_ow, List.getElem?_cons_succ, List.getElem?_cons_zero, List.set_cons_succ, List.set_cons_zero, List.length_cons, List.length_nil, List.length_map, List.map_cons, List.map_nil, wif_t, wif_f, wnx_nx, wnx_rt, frOk_int, frOk_str, frOk_bool, frOk_none, frOk_1, true_and, and_true, fillS, slotOf, ownSl, backS, finO, List.filterMap_cons, List.filterMap_nil, id, wo_map, List.nodup_cons, List.nodup_nil, List.not_mem_nil, not_false_eq_true, wcall, List.append_nil, List.nil_append, List.cons_append, ite_true, ite_false, if_true, if_false, wipe, putBack, shOf, List.foldr_cons, List.foldr_nil, beq_self_eq_true, Nat.reduceAdd, Nat.reduceLT, Nat.reduceLeDiff, Nat.reduceEqDiff, Nat.reduceSub, Nat.reduceMul, Nat.reducePow, Int.reducePow, Int.reduceToNat, Int.reduceLT, Int.reduceLE, Int.reduceNe, Int.reduceEq, Int.reduceNeg, Int.reduceAdd, Int.reduceSub, Int.reduceMul, List.replicate, ne_eq, not_true_eq_false, false_and, and_false, or_true, true_or, isA_str]
  cases d with
  | str s =>
    walk_at "pv"
    have hl := hsm s rfl
    rw [show prog.G[G_MOST_LETTERS]? = some (.int 8) from rfl, wo_some]
    walk_at "pv"
    refine ⟨by omega, fun h1 => ⟨fun h2 => ?_, fun h2 => no (by simp [nameD, nameS]; omega)⟩, fun h1 => no (by simp [nameD, nameS]; omega)⟩
    refine hn _ ?_
    clear hn hr hb hc
    refine s_cut fun K hn hr hb hc => ?_
    walk_at "pv"
    rw [show seqL (.str s) = some (s.cps.toList.map fun c => PyData.str ⟨#[c]⟩) from rfl, wo_some]
    refine compP (fun c : Nat => some (.bool (decide (97 ≤ c ∧ c ≤ 122)))) (by rw [sline_num]; show s.cps.toList.length ≤ _; rw [Array.length_toList]; exact Nat.le_trans hl (by omega)) (fun c hc2 => ?_) ?_
    · walk_at "pv"
      rw [show prog.G[G_LETTERS]? = some (.str "abcdefghijklmnopqrstuvwxyz") from rfl, wo_some]
      walk_at "pv"
      refine ⟨rfl, ?_⟩
      rw [show decide (({ cps := #[c] } : Str).cps.getD 0 0 ∈ (Str.ofString "abcdefghijklmnopqrstuvwxyz").cps.toList) = decide (97 ≤ c ∧ c ≤ 122) from decide_eq_decide.mpr (letter_iff c)]
    rw [List.filterMap_eq_map', show List.map (fun c : Nat => PyData.bool (decide (97 ≤ c ∧ c ≤ 122))) s.cps.toList = (s.cps.toList.map fun c : Nat => decide (97 ≤ c ∧ c ≤ 122)).map PyData.bool from by rw [List.map_map]; rfl]
    walk_at "pv"
    refine hr _ _ _ ?_
    clear hn hr hb hc
    walk_at "pv"
    rw [List.all_map]
    show _ = PyData.bool (nameS s)
    unfold nameS
    rw [decide_eq_true ⟨by omega, by omega⟩, Bool.true_and]
    rfl
  | _ =>
    walk_at "pv"
    exact no rfl

/-! the law's own looks at things -/
theorem sp_lwhole (k : Nat) (d : D) (lo hi : Int) : wc (run prog (k + 1) F__law_whole [.sh d, .sh (.int lo), .sh (.int hi)]) fun m d' o => m = 0 ∧ d' = .bool (fromTo lo hi d) ∧ o = [.sh d, .sh (.int lo), .sh (.int hi)] := by
  refine wc_run (F := T__law_whole) rfl rfl ?_
  unfold T__law_whole
  walk_at "pv"
  refine s_cut fun K hn hr hb hc => ?_
  have fin : ∀ b, fromTo lo hi d = b → K (.rt 0 (.bool b)) [.sh d, .sh (.int lo), .sh (.int hi)] := fun b hq => by
    refine hr _ _ _ ?_
    clear hn hr hb hc
    walk_at "pv"
    rw [hq]
  simp only [↓wp_bind, ↓wp_ret, ↓wp_ofO, ↓wp_rdS, ↓wp_rdO, ↓wp_wr, ↓wp_valM, ↓wp_boolM, ↓wp_bad, ↓wp_opM, ↓woA_o1, ↓woA_o2, ↓woA_2o, ↓wo_f1, ↓wo_f2, ↓wp_v1, ↓wp_lit, ↓wp_var, ↓wp_own, ↓wp_frz, ↓wp_glb, ↓wp_kidx, ↓wp_kin, ↓wp_bin, ↓wp_neg, ↓wp_tst, ↓wp_boolV, ↓wp_not, ↓wp_bo, ↓wp_and_nil, ↓wp_or_nil, ↓wp_and_1, ↓wp_or_1, ↓wp_and_cons, ↓wp_or_cons, ↓wo_cmpF, ↓wp_cmp, ↓wp_cmp2, ↓wp_ife, ↓wvs_nil, ↓wvs_cons, ↓wp_tup, ↓wp_lst, ↓wp_evs_nil, ↓wp_evs_cons, ↓wp_idx, ↓wp_oe_no, ↓wint_int, ↓wp_oe_so, ↓wp_slc, ↓wp_rev, ↓wp_by2, ↓wp_bi, ↓woA_b1, ↓woA_b2, ↓woA_bo, ↓wp_me, ↓wp_call, ↓wp_comp, ↓wp_popE, ↓wp_popV, ↓wp_compO, ↓wol_ow, ↓wp_it_seq, ↓wp_it_rng1, ↓wp_it_rng2, ↓wp_it_enum, ↓wp_it_zip2, ↓wp_it_rev, ↓wp_nm, ↓wp_tp, ↓wp_tpl, ↓wp_tp_nil, ↓wp_tp_cons, ↓wp_W_lst, ↓wp_W_lst2, ↓wp_Ws_nil, ↓wp_Ws_cons, ↓wls_l, ↓wp_W_slc, ↓wp_W_rev, ↓wp_W_bi, ↓wp_W_add, ↓wp_W_comp, ↓wp_W_call, ↓wp_W_ife, ↓wp_vM, ↓wp_s_nil, ↓wp_asg0, ↓wp_asgW, ↓wp_unp, ↓wp_aug, ↓wp_sto0, ↓wp_stoW, ↓wp_app0, ↓wp_appW, ↓wp_mc_reverse, ↓wp_mc_clear, ↓wp_mc_extend, ↓wp_sfrz, ↓wp_exp, ↓wp_ret0, ↓wp_retW, ↓wp_reto, ↓wp_retn, ↓wp_ite, ↓wp_for, ↓wp_whl, ↓wp_brk, ↓wp_cnt, ↓wp_pas, ↓wp_ebad, ↓wp_sbad, ↓wdc_v, ↓wdc_o, ↓wp_dget, ↓wp_dget2, ↓woA_3, ↓woA_o3, ↓woA_b3, ↓wp_dct, ↓wp_it_zipS, ↓wp_par, ↓wp_tryN, ↓wp_parL_nil, ↓wp_parL_cons, ↓b_mult, ↓b_mulli, ↓c_isb, ↓c_isnb, ↓c_insg, ↓c_ninsg, ↓i_dict, ↓d_get1, ↓d_get2, ↓f_all, ↓f_any, ↓f_max3, ↓f_min3, ↓f_divmod, ↓f_strs, ↓f_sorted, ↓f_srtK, ↓f_sortR, ↓f_lenset, ↓f_lrg, ↓f_lrg2, ↓f_dict, ↓r_tup, ↓q_zll, ↓q_ztt, ↓q_zsl, ↓q_zst, ↓wo_some, ↓wv_val, ↓wb_bool, ↓wsh_sh, ↓wow_ow, ↓wif_t, ↓wif_f, ↓wif_d, ↓wif_n, ↓wif_and, ↓wif_or, ↓wnx_nx, ↓wnx_rt, ↓wnx_bk, ↓wnx_ct, ↓wtn_nx, ↓wtn_ct, ↓wtn_bk, ↓wtn_rt, ↓wrl_ow, ↓wfin_rt, ↓wfin_nx, ↓wp_forL_nil, ↓b_add, ↓b_muls, ↓b_sub, ↓b_mull, ↓b_mulr, ↓b_mul, ↓b_fdivp, ↓b_fdiv, ↓b_modp, ↓b_mod, ↓b_pow, ↓b_adds, ↓b_addl, ↓b_addt, ↓n_int, ↓c_eqi, ↓c_nei, ↓c_eqs, ↓c_nes, ↓c_lt, ↓c_le, ↓c_gt, ↓c_ge, ↓c_is, ↓c_isn, ↓c_int, ↓c_inl, ↓c_nint, ↓c_ninl, ↓i_list, ↓i_tup, ↓i_str, ↓wat_map, ↓wat_0, ↓wat_1, ↓wat_2, ↓wat_3, ↓wat_4, ↓wat_5, ↓wat_6, ↓wat_7, ↓wat_8, ↓s_0, ↓s_1, ↓s_2, ↓s_3, ↓s_4, ↓s_5, ↓a_list, ↓e_list, ↓m_reverse, ↓m_clear, ↓g_add, ↓g_sub, ↓f_lenl, ↓f_lent, ↓f_lens, ↓f_abs, ↓f_max, ↓f_min, ↓f_minD, ↓f_maxD, ↓f_zfill, ↓f_intb, ↓f_int, ↓f_tupl, ↓f_tupt, ↓f_lstl, ↓f_lstt, ↓f_isa, ↓f_repr, ↓f_str, ↓f_sset, ↓q_list, ↓q_tup, ↓q_enl, ↓q_ent, ↓q_revl, ↓q_revt, ↓l_list, ↓l_tup, ↓l_str, ↓r_list, ↓y_by2, ↓wrng_0, isA_ss, isA_ll, isA_tt, rootBi, freshBi, meT, sline_num, eqv_ss, eqv_ii, List.any_cons, List.any_nil, Bool.or_false, we_eq, wo_some, wsh_sh, wow_ow, wrl_ow, List.getElem?_cons_succ, List.getElem?_cons_zero, List.set_cons_succ, List.set_cons_zero, List.length_cons, List.length_nil, List.length_map, List.map_cons, List.map_nil, wif_t, wif_f, wnx_nx, wnx_rt, frOk_int, frOk_str, frOk_bool, frOk_none, frOk_1, true_and, and_true, fillS, slotOf, ownSl, backS, finO, List.filterMap_cons, List.filterMap_nil, id, wo_map, List.nodup_cons, List.nodup_nil, List.not_mem_nil, not_false_eq_true, wcall, List.append_nil, List.nil_append, List.cons_append, ite_true, ite_false, if_true, if_false, wipe, putBack, shOf, List.foldr_cons, List.foldr_nil, beq_self_eq_true, Nat.reduceAdd, Nat.reduceLT, Nat.reduceLeDiff, Nat.reduceEqDiff, Nat.reduceSub, Nat.reduceMul, Nat.reducePow, Int.reducePow, Int.reduceToNat, Int.reduceLT, Int.reduceLE, Int.reduceNe, Int.reduceEq, Int.reduceNeg, Int.reduceAdd, Int.reduceSub, Int.reduceMul, List.replicate, ne_eq, not_true_eq_false, false_and, and_false, or_true, true_or, isA_int, isA_bool]
  cases d with
  | int i =>
    simp only [↓wp_bind, ↓wp_ret, ↓wp_ofO, ↓wp_rdS, ↓wp_rdO, ↓wp_wr, ↓wp_valM, ↓wp_boolM, ↓wp_bad, ↓wp_opM, ↓woA_o1, ↓woA_o2, ↓woA_2o, ↓wo_f1, ↓wo_f2, ↓wp_v1, ↓wp_lit, ↓wp_var, ↓wp_own, ↓wp_frz, ↓wp_glb, ↓wp_kidx, ↓wp_kin, ↓wp_bin, ↓wp_neg, ↓wp_tst, ↓wp_boolV, ↓wp_not, ↓wp_bo, ↓wp_and_nil, ↓wp_or_nil, ↓wp_and_1, ↓wp_or_1, ↓wp_and_cons, ↓wp_or_cons, ↓wo_cmpF, ↓wp_cmp, ↓wp_cmp2, ↓wp_ife, ↓wvs_nil, ↓wvs_cons, ↓wp_tup, ↓wp_lst, ↓wp_evs_nil, ↓wp_evs_cons, ↓wp_idx, ↓wp_oe_no, ↓wint_int, ↓wp_oe_so, ↓wp_slc, ↓wp_rev, ↓wp_by2, ↓wp_bi, ↓woA_b1, ↓woA_b2, ↓woA_bo, ↓wp_me, ↓wp_call, ↓wp_comp, ↓wp_popE, ↓wp_popV, ↓wp_compO, ↓wol_ow, ↓wp_it_seq, ↓wp_it_rng1, ↓wp_it_rng2, ↓wp_it_enum, ↓wp_it_zip2, ↓wp_it_rev, ↓wp_nm, ↓wp_tp, ↓wp_tpl, ↓wp_tp_nil, ↓wp_tp_cons, ↓wp_W_lst, ↓wp_W_lst2, ↓wp_Ws_nil, ↓wp_Ws_cons, ↓wls_l, ↓wp_W_slc, ↓wp_W_rev, ↓wp_W_bi, ↓wp_W_add, ↓wp_W_comp, ↓wp_W_call, ↓wp_W_ife, ↓wp_vM, ↓wp_s_nil, ↓wp_asg0, ↓wp_asgW, ↓wp_unp, ↓wp_aug, ↓wp_sto0, ↓wp_stoW, ↓wp_app0, ↓wp_appW, ↓wp_mc_reverse, ↓wp_mc_clear, ↓wp_mc_extend, ↓wp_sfrz, ↓wp_exp, ↓wp_ret0, ↓wp_retW, ↓wp_reto, ↓wp_retn, ↓wp_ite, ↓wp_for, ↓wp_whl, ↓wp_brk, ↓wp_cnt, ↓wp_pas, ↓wp_ebad, ↓wp_sbad, ↓wdc_v, ↓wdc_o, ↓wp_dget, ↓wp_dget2, ↓woA_3, ↓woA_o3, ↓woA_b3, ↓wp_dct, ↓wp_it_zipS, ↓wp_par, ↓wp_tryN, ↓wp_parL_nil, ↓wp_parL_cons, ↓b_mult, ↓b_mulli, ↓c_isb, ↓c_isnb, ↓c_insg, ↓c_ninsg, ↓i_dict, ↓d_get1, ↓d_get2, ↓f_all, ↓f_any, ↓f_max3, ↓f_min3, ↓f_divmod, ↓f_strs, ↓f_sorted, ↓f_srtK, ↓f_sortR, ↓f_lenset, ↓f_lrg, ↓f_lrg2, ↓f_dict, ↓r_tup, ↓q_zll, ↓q_ztt, ↓q_zsl, ↓q_zst, ↓wo_some, ↓wv_val, ↓wb_bool, ↓wsh_sh, ↓wow_ow, ↓wif_t, ↓wif_f, ↓wif_d, ↓wif_n, ↓wif_and, ↓wif_or, ↓wnx_nx, ↓wnx_rt, ↓wnx_bk, ↓wnx_ct, ↓wtn_nx, ↓wtn_ct, ↓wtn_bk, ↓wtn_rt, ↓wrl_ow, ↓wfin_rt, ↓wfin_nx, ↓wp_forL_nil, ↓b_add, ↓b_muls, ↓b_sub, ↓b_mull, ↓b_mulr, ↓b_mul, ↓b_fdivp, ↓b_fdiv, ↓b_modp, ↓b_mod, ↓b_pow, ↓b_adds, ↓b_addl, ↓b_addt, ↓n_int, ↓c_eqi, ↓c_nei, ↓c_eqs, ↓c_nes, ↓c_lt, ↓c_le, ↓c_gt, ↓c_ge, ↓c_is, ↓c_isn, ↓c_int, ↓c_inl, ↓c_nint, ↓c_ninl, ↓i_list, ↓i_tup, ↓i_str, ↓wat_map, ↓wat_0, ↓wat_1, ↓wat_2, ↓wat_3, ↓wat_4, ↓wat_5, ↓wat_6, ↓wat_7, ↓wat_8, ↓s_0, ↓s_1, ↓s_2, ↓s_3, ↓s_4, ↓s_5, ↓a_list, ↓e_list, ↓m_reverse, ↓m_clear, ↓g_add, ↓g_sub, ↓f_lenl, ↓f_lent, ↓f_lens, ↓f_abs, ↓f_max, ↓f_min, ↓f_minD, ↓f_maxD, ↓f_zfill, ↓f_intb, ↓f_int, ↓f_tupl, ↓f_tupt, ↓f_lstl, ↓f_lstt, ↓f_isa, ↓f_repr, ↓f_str, ↓f_sset, ↓q_list, ↓q_tup, ↓q_enl, ↓q_ent, ↓q_revl, ↓q_revt, ↓l_list, ↓l_tup, ↓l_str, ↓r_list, ↓y_by2, ↓wrng_0, isA_ss, isA_ll, isA_tt, rootBi, freshBi, meT, sline_num, eqv_ss, eqv_ii, List.any_cons, List.any_nil, Bool.or_false, we_eq, wo_some, wsh_sh, wow_ow, wrl_ow, List.getElem?_cons_succ, List.getElem?_cons_zero, List.set_cons_succ, List.set_cons_zero, List.length_cons, List.length_nil, List.length_map, List.map_cons, List.map_nil, wif_t, wif_f, wnx_nx, wnx_rt, frOk_int, frOk_str, frOk_bool, frOk_none, frOk_1, true_and, and_true, fillS, slotOf, ownSl, backS, finO, List.filterMap_cons, List.filterMap_nil, id, wo_map, List.nodup_cons, List.nodup_nil, List.not_mem_nil, not_false_eq_true, wcall, List.append_nil, List.nil_append, List.cons_append, ite_true, ite_false, if_true, if_false, wipe, putBack, shOf, List.foldr_cons, List.foldr_nil, beq_self_eq_true, Nat.reduceAdd, Nat.reduceLT, Nat.reduceLeDiff, Nat.reduceEqDiff, Nat.reduceSub, Nat.reduceMul, Nat.reducePow, Int.reducePow, Int.reduceToNat, Int.reduceLT, Int.reduceLE, Int.reduceNe, Int.reduceEq, Int.reduceNeg, Int.reduceAdd, Int.reduceSub, Int.reduceMul, List.replicate, ne_eq, not_true_eq_false, false_and, and_false, or_true, true_or, Bool.not_true, Bool.not_false]
    exact ⟨fun h => fin _ (by simp [fromTo, h]), fun h => fin _ (by simp [fromTo, h])⟩
  | _ =>
    first
      | exact fin _ rfl
      | (simp only [↓wp_bind, ↓wp_ret, ↓wp_ofO, ↓wp_rdS, ↓wp_rdO, ↓wp_wr, ↓wp_valM, ↓wp_boolM, ↓wp_bad, ↓wp_opM, ↓woA_o1, ↓woA_o2, ↓woA_2o, ↓wo_f1, ↓wo_f2, ↓wp_v1, ↓wp_lit, ↓wp_var, ↓wp_own, ↓wp_frz, ↓wp_glb, ↓wp_kidx, ↓wp_kin, ↓wp_bin, ↓wp_neg, ↓wp_tst, ↓wp_boolV, ↓wp_not, ↓wp_bo, ↓wp_and_nil, ↓wp_or_nil, ↓wp_and_1, ↓wp_or_1, ↓wp_and_cons, ↓wp_or_cons, ↓wo_cmpF, ↓wp_cmp, ↓wp_cmp2, ↓wp_ife, ↓wvs_nil, ↓wvs_cons, ↓wp_tup, ↓wp_lst, ↓wp_evs_nil, ↓wp_evs_cons, ↓wp_idx, ↓wp_oe_no, ↓wint_int, ↓wp_oe_so, ↓wp_slc, ↓wp_rev, ↓wp_by2, ↓wp_bi, ↓woA_b1, ↓woA_b2, ↓woA_bo, ↓wp_me, ↓wp_call, ↓wp_comp, ↓wp_popE, ↓wp_popV, ↓wp_compO, ↓wol_ow, ↓wp_it_seq, ↓wp_it_rng1, ↓wp_it_rng2, ↓wp_it_enum, ↓wp_it_zip2, ↓wp_it_rev, ↓wp_nm, ↓wp_tp, ↓wp_tpl, ↓wp_tp_nil, ↓wp_tp_cons, ↓wp_W_lst, ↓wp_W_lst2, ↓wp_Ws_nil, ↓wp_Ws_cons, ↓wls_l, ↓wp_W_slc, ↓wp_W_rev, ↓wp_W_bi, ↓wp_W_add, ↓wp_W_comp, ↓wp_W_call, ↓wp_W_ife, ↓wp_vM, ↓wp_s_nil, ↓wp_asg0, ↓wp_asgW, ↓wp_unp, ↓wp_aug, ↓wp_sto0, ↓wp_stoW, ↓wp_app0, ↓wp_appW, ↓wp_mc_reverse, ↓wp_mc_clear, ↓wp_mc_extend, ↓wp_sfrz, ↓wp_exp, ↓wp_ret0, ↓wp_retW, ↓wp_reto, ↓wp_retn, ↓wp_ite, ↓wp_for, ↓wp_whl, ↓wp_brk, ↓wp_cnt, ↓wp_pas, ↓wp_ebad, ↓wp_sbad, ↓wdc_v, ↓wdc_o, ↓wp_dget, ↓wp_dget2, ↓woA_3, ↓woA_o3, ↓woA_b3, ↓wp_dct, ↓wp_it_zipS, ↓wp_par, ↓wp_tryN, ↓wp_parL_nil, ↓wp_parL_cons, ↓b_mult, ↓b_mulli, ↓c_isb, ↓c_isnb, ↓c_insg, ↓c_ninsg, ↓i_dict, ↓d_get1, ↓d_get2, ↓f_all, ↓f_any, ↓f_max3, ↓f_min3, ↓f_divmod, ↓f_strs, ↓f_sorted, ↓f_srtK, ↓f_sortR, ↓f_lenset, ↓f_lrg, ↓f_lrg2, ↓f_dict, ↓r_tup, ↓q_zll, ↓q_ztt, ↓q_zsl, ↓q_zst, ↓wo_some, ↓wv_val, ↓wb_bool, ↓wsh_sh, ↓wow_ow, ↓wif_t, ↓wif_f, ↓wif_d, ↓wif_n, ↓wif_and, ↓wif_or, ↓wnx_nx, ↓wnx_rt, ↓wnx_bk, ↓wnx_ct, ↓wtn_nx, ↓wtn_ct, ↓wtn_bk, ↓wtn_rt, ↓wrl_ow, ↓wfin_rt, ↓wfin_nx, ↓wp_forL_nil, ↓b_add, ↓b_muls, ↓b_sub, ↓b_mull, ↓b_mulr, ↓b_mul, ↓b_fdivp, ↓b_fdiv, ↓b_modp, ↓b_mod, ↓b_pow, ↓b_adds, ↓b_addl, ↓b_addt, ↓n_int, ↓c_eqi, ↓c_nei, ↓c_eqs, ↓c_nes, ↓c_lt, ↓c_le, ↓c_gt, ↓c_ge, ↓c_is, ↓c_isn, ↓c_int, ↓c_inl, ↓c_nint, ↓c_ninl, ↓i_list, ↓i_tup, ↓i_str, ↓wat_map, ↓wat_0, ↓wat_1, ↓wat_2, ↓wat_3, ↓wat_4, ↓wat_5, ↓wat_6, ↓wat_7, ↓wat_8, ↓s_0, ↓s_1, ↓s_2, ↓s_3, ↓s_4, ↓s_5, ↓a_list, ↓e_list, ↓m_reverse, ↓m_clear, ↓g_add, ↓g_sub, ↓f_lenl, ↓f_lent, ↓f_lens, ↓f_abs, ↓f_max, ↓f_min, ↓f_minD, ↓f_maxD, ↓f_zfill, ↓f_intb, ↓f_int, ↓f_tupl, ↓f_tupt, ↓f_lstl, ↓f_lstt, ↓f_isa, ↓f_repr, ↓f_str, ↓f_sset, ↓q_list, ↓q_tup, ↓q_enl, ↓q_ent, ↓q_revl, ↓q_revt, ↓l_list, ↓l_tup, ↓l_str, ↓r_list, ↓y_by2, ↓wrng_0, isA_ss, isA_ll, isA_tt, rootBi, freshBi, meT, sline_num, eqv_ss, eqv_ii, List.any_cons, List.any_nil, Bool.or_false, we_eq, wo_some, wsh_sh, wow_ow, wrl_ow, List.getElem?_cons_succ, List.getElem?_cons_zero, List.set_cons_succ, List.set_cons_zero, List.length_cons, List.length_nil, List.length_map, List.map_cons, List.map_nil, wif_t, wif_f, wnx_nx, wnx_rt, frOk_int, frOk_str, frOk_bool, frOk_none, frOk_1, true_and, and_true, fillS, slotOf, ownSl, backS, finO, List.filterMap_cons, List.filterMap_nil, id, wo_map, List.nodup_cons, List.nodup_nil, List.not_mem_nil, not_false_eq_true, wcall, List.append_nil, List.nil_append, List.cons_append, ite_true, ite_false, if_true, if_false, wipe, putBack, shOf, List.foldr_cons, List.foldr_nil, beq_self_eq_true, Nat.reduceAdd, Nat.reduceLT, Nat.reduceLeDiff, Nat.reduceEqDiff, Nat.reduceSub, Nat.reduceMul, Nat.reducePow, Int.reducePow, Int.reduceToNat, Int.reduceLT, Int.reduceLE, Int.reduceNe, Int.reduceEq, Int.reduceNeg, Int.reduceAdd, Int.reduceSub, Int.reduceMul, List.replicate, ne_eq, not_true_eq_false, false_and, and_false, or_true, true_or, Bool.not_true, Bool.not_false]; exact fin _ rfl)
theorem eq_chars {R : Bool → Prop} (cs : List Nat) : wcm .Eq (.list (cs.map fun c => PyData.str ⟨#[c]⟩)) (.list []) R = R (decide (cs = [])) := by
  have ok : eqOk (.list (cs.map fun c => PyData.str ⟨#[c]⟩)) = true := by
    unfold eqOk
    rw [Bool.and_eq_true, decide_eq_true_eq]
    refine ⟨?_, ?_⟩
    · show PyData.plainAll (cs.map fun c => PyData.str ⟨#[c]⟩) = true
      exact plainAll_of fun x hx => by obtain ⟨p, _, rfl⟩ := List.mem_map.mp hx; rfl
    · have := depthAll_le (n := 0) (xs := cs.map fun c => PyData.str ⟨#[c]⟩) fun x hx => by
        obtain ⟨p, _, rfl⟩ := List.mem_map.mp hx
        simp [PyData.depth]
      show PyData.depthAll (cs.map fun c => PyData.str ⟨#[c]⟩) + 1 ≤ 64
      omega
  rw [c_eq, ok]
  cases cs <;> simp [eqOk, PyData.plain, PyData.plainAll, PyData.depth, PyData.depthAll, PyData.eqv, PyData.eqvAll]
theorem fm_char {c : Nat → Bool} (xs : List Nat) : (xs.filterMap fun x => if c x = true then some (PyData.str ⟨#[x]⟩) else none) = (xs.filter c).map fun x => PyData.str ⟨#[x]⟩ := by
  induction xs with
  | nil => rfl
  | cons x xs ih =>
    rw [List.filterMap_cons, List.filter_cons]
    by_cases h : c x = true
    · rw [if_pos h, if_pos h, ih]; rfl
    · rw [if_neg h, if_neg h, ih]
theorem sp_lnamed (k : Nat) (d : D) (hsm : ∀ s, d = .str s → s.length ≤ 1000) : wc (run prog (k + 1) F__law_named [.sh d]) fun m d' o => m = 0 ∧ d' = .bool (nameD d) ∧ o = [.sh d] := by
  refine wc_run (F := T__law_named) rfl rfl ?_
  unfold T__law_named
  walk_at "pv"
  refine s_cut fun K hn hr hb hc => ?_
  have no : nameD d = false → wp (exs (cN k) B__law_named_0t0) [.sh d, .no] K := fun hq => by
    refine s_cut fun K hn hr hb hc => ?_
    walk_at "pv"
    refine hr _ _ _ ?_
    clear hn hr hb hc
    refine hr _ _ _ ?_
    clear hn hr hb hc
    walk_at "pv"
    rw [hq]
  simp only [↓wp_bind, ↓wp_ret, ↓wp_ofO, ↓wp_rdS, ↓wp_rdO, ↓wp_wr, ↓wp_valM, ↓wp_boolM, ↓wp_bad, ↓wp_opM, ↓woA_o1, ↓woA_o2, ↓woA_2o, ↓wo_f1, ↓wo_f2, ↓wp_v1, ↓wp_lit, ↓wp_var, ↓wp_own, ↓wp_frz, ↓wp_glb, ↓wp_kidx, ↓wp_kin, ↓wp_bin, ↓wp_neg, ↓wp_tst, ↓wp_boolV, ↓wp_not, ↓wp_bo, ↓wp_and_nil, ↓wp_or_nil, ↓wp_and_1, ↓wp_or_1, ↓wp_and_cons, ↓wp_or_cons, ↓wo_cmpF, ↓wp_cmp, ↓wp_cmp2, ↓wp_ife, ↓wvs_nil, ↓wvs_cons, ↓wp_tup, ↓wp_lst, ↓wp_evs_nil, ↓wp_evs_cons, ↓wp_idx, ↓wp_oe_no, ↓wint_int, ↓wp_oe_so, ↓wp_slc, ↓wp_rev, ↓wp_by2, ↓wp_bi, ↓woA_b1, ↓woA_b2, ↓woA_bo, ↓wp_me, ↓wp_call, ↓wp_comp, ↓wp_popE, ↓wp_popV, ↓wp_compO, ↓wol_ow, ↓wp_it_seq, ↓wp_it_rng1, ↓wp_it_rng2, ↓wp_it_enum, ↓wp_it_zip2, ↓wp_it_rev, ↓wp_nm, ↓wp_tp, ↓wp_tpl, ↓wp_tp_nil, ↓wp_tp_cons, ↓wp_W_lst, ↓wp_W_lst2, ↓wp_Ws_nil, ↓wp_Ws_cons, ↓wls_l, ↓wp_W_slc, ↓wp_W_rev, ↓wp_W_bi, ↓wp_W_add, ↓wp_W_comp, ↓wp_W_call, ↓wp_W_ife, ↓wp_vM, ↓wp_s_nil, ↓wp_asg0, ↓wp_asgW, ↓wp_unp, ↓wp_aug, ↓wp_sto0, ↓wp_stoW, ↓wp_app0, ↓wp_appW, ↓wp_mc_reverse, ↓wp_mc_clear, ↓wp_mc_extend, ↓wp_sfrz, ↓wp_exp, ↓wp_ret0, ↓wp_retW, ↓wp_reto, ↓wp_retn, ↓wp_ite, ↓wp_for, ↓wp_whl, ↓wp_brk, ↓wp_cnt, ↓wp_pas, ↓wp_ebad, ↓wp_sbad, ↓wdc_v, ↓wdc_o, ↓wp_dget, ↓wp_dget2, ↓woA_3, ↓woA_o3, ↓woA_b3, ↓wp_dct, ↓wp_it_zipS, ↓wp_par, ↓wp_tryN, ↓wp_parL_nil, ↓wp_parL_cons, ↓b_mult, ↓b_mulli, ↓c_isb, ↓c_isnb, ↓c_insg, ↓c_ninsg, ↓i_dict, ↓d_get1, ↓d_get2, ↓f_all, ↓f_any, ↓f_max3, ↓f_min3, ↓f_divmod, ↓f_strs, ↓f_sorted, ↓f_srtK, ↓f_sortR, ↓f_lenset, ↓f_lrg, ↓f_lrg2, ↓f_dict, ↓r_tup, ↓q_zll, ↓q_ztt, ↓q_zsl, ↓q_zst, ↓wo_some, ↓wv_val, ↓wb_bool, ↓wsh_sh, ↓wow_ow, ↓wif_t, ↓wif_f, ↓wif_d, ↓wif_n, ↓wif_and, ↓wif_or, ↓wnx_nx, ↓wnx_rt, ↓wnx_bk, ↓wnx_ct, ↓wtn_nx, ↓wtn_ct, ↓wtn_bk, ↓wtn_rt, ↓wrl_ow, ↓wfin_rt, ↓wfin_nx, ↓wp_forL_nil, ↓b_add, ↓b_muls, ↓b_sub, ↓b_mull, ↓b_mulr, ↓b_mul, ↓b_fdivp, ↓b_fdiv, ↓b_modp, ↓b_mod, ↓b_pow, ↓b_adds, ↓b_addl, ↓b_addt, ↓n_int, ↓c_eqi, ↓c_nei, ↓c_eqs, ↓c_nes, ↓c_lt, ↓c_le, ↓c_gt, ↓c_ge, ↓c_is, ↓c_isn, ↓c_int, ↓c_inl, ↓c_nint, ↓c_ninl, ↓i_list, ↓i_tup, ↓i_str, ↓wat_map, ↓wat_0, ↓wat_1, ↓wat_2, ↓wat_3, ↓wat_4, ↓wat_5, ↓wat_6, ↓wat_7, ↓wat_8, ↓s_0, ↓s_1, ↓s_2, ↓s_3, ↓s_4, ↓s_5, ↓a_list, ↓e_list, ↓m_reverse, ↓m_clear, ↓g_add, ↓g_sub, ↓f_lenl, ↓f_lent, ↓f_lens, ↓f_abs, ↓f_max, ↓f_min, ↓f_minD, ↓f_maxD, ↓f_zfill, ↓f_intb, ↓f_int, ↓f_tupl, ↓f_tupt, ↓f_lstl, ↓f_lstt, ↓f_isa, ↓f_repr, ↓f_str, ↓f_sset, ↓q_list, ↓q_tup, ↓q_enl, ↓q_ent, ↓q_revl, ↓q_revt, ↓l_list, ↓l_tup, ↓l_str, ↓r_list, ↓y_by2, ↓wrng_0, isA_ss, isA_ll, isA_tt, rootBi, freshBi, meT, sline_num, eqv_ss, eqv_ii, List.any_cons, List.any_nil, Bool.or_false, we_eq, wo_some, wsh_sh, wow_ow, wrl_ow, List.getElem?_cons_succ, List.getElem?_cons_zero, List.set_cons_succ, List.set_cons_zero, List.length_cons, List.length_nil, List.length_map, List.map_cons, List.map_nil, wif_t, wif_f, wnx_nx, wnx_rt, frOk_int, frOk_str, frOk_bool, frOk_none, frOk_1, true_and, and_true, fillS, slotOf, ownSl, backS, finO, List.filterMap_cons, List.filterMap_nil, id, wo_map, List.nodup_cons, List.nodup_nil, List.not_mem_nil, not_false_eq_true, wcall, List.append_nil, List.nil_append, List.cons_append, ite_true, ite_false, if_true, if_false, wipe, putBack, shOf, List.foldr_cons, List.foldr_nil, beq_self_eq_true, Nat.reduceAdd, Nat.reduceLT, Nat.reduceLeDiff, Nat.reduceEqDiff, Nat.reduceSub, Nat.reduceMul, Nat.reducePow, Int.reducePow, Int.reduceToNat, Int.reduceLT, Int.reduceLE, Int.reduceNe, Int.reduceEq, Int.reduceNeg, Int.reduceAdd, Int.reduceSub, Int.reduceMul, List.replicate, ne_eq, not_true_eq_false, false_and, and_false, or_true, true_or, isA_str]
  cases d with
  | str s =>
    walk_at "pv"
    have hl := hsm s rfl
    refine ⟨by omega, fun h1 => ⟨fun h2 => ?_, fun h2 => no (by simp [nameD, nameS]; omega)⟩, fun h1 => no (by simp [nameD, nameS]; omega)⟩
    refine hn _ ?_
    clear hn hr hb hc
    refine s_cut fun K hn hr hb hc => ?_
    walk_at "pv"
    rw [show seqL (.str s) = some (s.cps.toList.map fun c => PyData.str ⟨#[c]⟩) from rfl, wo_some]
    refine compP (fun c : Nat => if (!decide (97 ≤ c ∧ c ≤ 122)) = true then some (.str ⟨#[c]⟩) else none) (by rw [sline_num]; show s.cps.toList.length ≤ _; rw [Array.length_toList]; exact Nat.le_trans hl (by omega)) (fun c hc2 => ?_) ?_
    · walk_at "pv"
      refine ⟨rfl, fun h => ?_, fun h => ?_⟩
      · have := (letter_iff c).mp h
        simp [this]
      · have : ¬ (97 ≤ c ∧ c ≤ 122) := fun z => h ((letter_iff c).mpr z)
        simp only [decide_eq_false this]
        rfl
    rw [fm_char]
    simp only [↓wp_bind, ↓wp_ret, ↓wp_ofO, ↓wp_rdS, ↓wp_rdO, ↓wp_wr, ↓wp_valM, ↓wp_boolM, ↓wp_bad, ↓wp_opM, ↓woA_o1, ↓woA_o2, ↓woA_2o, ↓wo_f1, ↓wo_f2, ↓wp_v1, ↓wp_lit, ↓wp_var, ↓wp_own, ↓wp_frz, ↓wp_glb, ↓wp_kidx, ↓wp_kin, ↓wp_bin, ↓wp_neg, ↓wp_tst, ↓wp_boolV, ↓wp_not, ↓wp_bo, ↓wp_and_nil, ↓wp_or_nil, ↓wp_and_1, ↓wp_or_1, ↓wp_and_cons, ↓wp_or_cons, ↓wo_cmpF, ↓wp_cmp, ↓wp_cmp2, ↓wp_ife, ↓wvs_nil, ↓wvs_cons, ↓wp_tup, ↓wp_lst, ↓wp_evs_nil, ↓wp_evs_cons, ↓wp_idx, ↓wp_oe_no, ↓wint_int, ↓wp_oe_so, ↓wp_slc, ↓wp_rev, ↓wp_by2, ↓wp_bi, ↓woA_b1, ↓woA_b2, ↓woA_bo, ↓wp_me, ↓wp_call, ↓wp_comp, ↓wp_popE, ↓wp_popV, ↓wp_compO, ↓wol_ow, ↓wp_it_seq, ↓wp_it_rng1, ↓wp_it_rng2, ↓wp_it_enum, ↓wp_it_zip2, ↓wp_it_rev, ↓wp_nm, ↓wp_tp, ↓wp_tpl, ↓wp_tp_nil, ↓wp_tp_cons, ↓wp_W_lst, ↓wp_W_lst2, ↓wp_Ws_nil, ↓wp_Ws_cons, ↓wls_l, ↓wp_W_slc, ↓wp_W_rev, ↓wp_W_bi, ↓wp_W_add, ↓wp_W_comp, ↓wp_W_call, ↓wp_W_ife, ↓wp_vM, ↓wp_s_nil, ↓wp_asg0, ↓wp_asgW, ↓wp_unp, ↓wp_aug, ↓wp_sto0, ↓wp_stoW, ↓wp_app0, ↓wp_appW, ↓wp_mc_reverse, ↓wp_mc_clear, ↓wp_mc_extend, ↓wp_sfrz, ↓wp_exp, ↓wp_ret0, ↓wp_retW, ↓wp_reto, ↓wp_retn, ↓wp_ite, ↓wp_for, ↓wp_whl, ↓wp_brk, ↓wp_cnt, ↓wp_pas, ↓wp_ebad, ↓wp_sbad, ↓wdc_v, ↓wdc_o, ↓wp_dget, ↓wp_dget2, ↓woA_3, ↓woA_o3, ↓woA_b3, ↓wp_dct, ↓wp_it_zipS, ↓wp_par, ↓wp_tryN, ↓wp_parL_nil, ↓wp_parL_cons, ↓b_mult, ↓b_mulli, ↓c_isb, ↓c_isnb, ↓c_insg, ↓c_ninsg, ↓i_dict, ↓d_get1, ↓d_get2, ↓f_all, ↓f_any, ↓f_max3, ↓f_min3, ↓f_divmod, ↓f_strs, ↓f_sorted, ↓f_srtK, ↓f_sortR, ↓f_lenset, ↓f_lrg, ↓f_lrg2, ↓f_dict, ↓r_tup, ↓q_zll, ↓q_ztt, ↓q_zsl, ↓q_zst, ↓wo_some, ↓wv_val, ↓wb_bool, ↓wsh_sh, ↓wow_ow, ↓wif_t, ↓wif_f, ↓wif_d, ↓wif_n, ↓wif_and, ↓wif_or, ↓wnx_nx, ↓wnx_rt, ↓wnx_bk, ↓wnx_ct, ↓wtn_nx, ↓wtn_ct, ↓wtn_bk, ↓wtn_rt, ↓wrl_ow, ↓wfin_rt, ↓wfin_nx, ↓wp_forL_nil, ↓b_add, ↓b_muls, ↓b_sub, ↓b_mull, ↓b_mulr, ↓b_mul, ↓b_fdivp, ↓b_fdiv, ↓b_modp, ↓b_mod, ↓b_pow, ↓b_adds, ↓b_addl, ↓b_addt, ↓n_int, ↓c_eqi, ↓c_nei, ↓c_eqs, ↓c_nes, ↓c_lt, ↓c_le, ↓c_gt, ↓c_ge, ↓c_is, ↓c_isn, ↓c_int, ↓c_inl, ↓c_nint, ↓c_ninl, ↓i_list, ↓i_tup, ↓i_str, ↓wat_map, ↓wat_0, ↓wat_1, ↓wat_2, ↓wat_3, ↓wat_4, ↓wat_5, ↓wat_6, ↓wat_7, ↓wat_8, ↓s_0, ↓s_1, ↓s_2, ↓s_3, ↓s_4, ↓s_5, ↓a_list, ↓e_list, ↓m_reverse, ↓m_clear, ↓g_add, ↓g_sub, ↓f_lenl, ↓f_lent, ↓f_lens, ↓f_abs, ↓f_max, ↓f_min, ↓f_minD, ↓f_maxD, ↓f_zfill, ↓f_intb, ↓f_int, ↓f_tupl, ↓f_tupt, ↓f_lstl, ↓f_lstt, ↓f_isa, ↓f_repr, ↓f_str, ↓f_sset, ↓q_list, ↓q_tup, ↓q_enl, ↓q_ent, ↓q_revl, ↓q_revt, ↓l_list, ↓l_tup, ↓l_str, ↓r_list, ↓y_by2, ↓wrng_0, isA_ss, isA_ll, isA_tt, rootBi, freshBi, meT, sline_num, eqv_ss, eqv_ii, List.any_cons, List.any_nil, Bool.or_false, we_eq, wo_some, wsh_sh, wow_ow, wrl_ow, List.getElem?_cons_succ, List.getElem?_cons_zero, List.set_cons_succ, List.set_cons_zero, List.length_cons, List.length_nil, List.length_map, List.map_cons, List.map_nil, wif_t, wif_f, wnx_nx, wnx_rt, frOk_int, frOk_str, frOk_bool, frOk_none, frOk_1, true_and, and_true, fillS, slotOf, ownSl, backS, finO, List.filterMap_cons, List.filterMap_nil, id, wo_map, List.nodup_cons, List.nodup_nil, List.not_mem_nil, not_false_eq_true, wcall, List.append_nil, List.nil_append, List.cons_append, ite_true, ite_false, if_true, if_false, wipe, putBack, shOf, List.foldr_cons, List.foldr_nil, beq_self_eq_true, Nat.reduceAdd, Nat.reduceLT, Nat.reduceLeDiff, Nat.reduceEqDiff, Nat.reduceSub, Nat.reduceMul, Nat.reducePow, Int.reducePow, Int.reduceToNat, Int.reduceLT, Int.reduceLE, Int.reduceNe, Int.reduceEq, Int.reduceNeg, Int.reduceAdd, Int.reduceSub, Int.reduceMul, List.replicate, ne_eq, not_true_eq_false, false_and, and_false, or_true, true_or, eq_chars]
    refine hr _ _ _ ?_
    clear hn hr hb hc
    walk_at "pv"
    show PyData.bool _ = PyData.bool (nameS s)
    unfold nameS
    rw [decide_eq_true (p := 1 ≤ s.length ∧ s.length ≤ 8) ⟨by omega, by omega⟩, Bool.true_and]
    congr 1
    rw [Bool.eq_iff_iff, decide_eq_true_eq, List.all_eq_true, List.filter_eq_nil_iff]
    refine ⟨fun h c hc => ?_, fun h c hc => ?_⟩
    · have := h c hc
      simpa using this
    · have := h c hc
      simpa using this
  | _ =>
    walk_at "pv"
    exact no rfl

/-! things that can be shown -/
def NameOk (s : Str) : Prop := 1 ≤ s.length ∧ s.length ≤ 8 ∧ ∀ c ∈ s.cps.toList, 97 ≤ c ∧ c ≤ 122
mutual
def shB : D → Bool
  | .none => true
  | .bool _ => true
  | .int i => decide (i.natAbs.log2 < 1920)
  | .str x => x.cps.toList.all fun c => decide (c < 16 ^ 8)
  | .list xs => shBs xs
  | .tuple xs => shBs xs
  | .dict kvs => shBk kvs
def shBs : List D → Bool
  | [] => true
  | x :: xs => shB x && shBs xs
def shBk : List (D × D) → Bool
  | [] => true
  | (k, v) :: r => (shB k && shB v) && shBk r
end
mutual
theorem shB_ok : ∀ d : D, shB d = true → shOk d
  | .none, _ => by simp only [shOk]
  | .bool _, _ => by simp only [shOk]
  | .int i, h => by simpa [shB, shOk] using h
  | .str x, h => by
    simp only [shOk]
    intro c hc
    exact of_decide_eq_true (List.all_eq_true.mp (by simpa only [shB] using h) c hc)
  | .list xs, h => by simp only [shOk]; exact shBs_ok xs (by simpa only [shB] using h)
  | .tuple xs, h => by simp only [shOk]; exact shBs_ok xs (by simpa only [shB] using h)
  | .dict kvs, h => by simp only [shOk]; exact shBk_ok kvs (by simpa only [shB] using h)
theorem shBs_ok : ∀ xs : List D, shBs xs = true → shOks xs
  | [], _ => by simp only [shOks]
  | x :: xs, h => by
    simp only [shBs, Bool.and_eq_true] at h
    simp only [shOks]
    exact ⟨shB_ok x h.1, shBs_ok xs h.2⟩
theorem shBk_ok : ∀ kvs : List (D × D), shBk kvs = true → shOkk kvs
  | [], _ => by simp only [shOkk]
  | (k, v) :: r, h => by
    simp only [shBk, Bool.and_eq_true] at h
    simp only [shOkk]
    exact ⟨⟨shB_ok k h.1.1, shB_ok v h.1.2⟩, shBk_ok r h.2⟩
end
structure Odd (d : D) : Prop where
  sh : shOk d
  sz : rsz d ≤ 2000
  dp : d.depth ≤ 10
  st : ∀ s, d = .str s → s.length ≤ 100
def oddB (d : D) : Bool := (shB d && decide (rsz d ≤ 2000)) && (decide (d.depth ≤ 10) && match d with | .str s => decide (s.length ≤ 100) | _ => true)
theorem oddB_ok {d : D} (h : oddB d = true) : Odd d := by
  unfold oddB at h
  simp only [Bool.and_eq_true, decide_eq_true_eq] at h
  refine ⟨shB_ok d h.1.1, h.1.2, h.2.1, fun s e => ?_⟩
  subst e
  simpa using h.2.2
def Part (d : D) : Prop := (∃ i : Int, d = .int i ∧ -100000 ≤ i ∧ i ≤ 100000) ∨ ∃ s : Str, d = .str s ∧ s.length ≤ 8 ∧ ∀ c ∈ s.cps.toList, c ≤ 122
theorem part_ok {d : D} (h : Part d) : shOk d ∧ rsz d ≤ 100 ∧ d.depth = 0 ∧ ∀ s, d = .str s → s.length ≤ 8 := by
  rcases h with ⟨i, rfl, h1, h2⟩ | ⟨s, rfl, h1, h2⟩
  · have : i.natAbs.log2 ≤ 16 := log2_lt (by omega)
    refine ⟨by simp only [shOk]; omega, by simp only [rsz]; omega, rfl, fun s e => by cases e⟩
  · refine ⟨?_, by simp only [rsz]; omega, rfl, fun z e => by cases e; exact h1⟩
    simp only [shOk]
    intro c hc
    have := h2 c hc
    omega
theorem part_odd {d : D} (h : Part d) : Odd d := by
  obtain ⟨a, b, c, e⟩ := part_ok h
  exact ⟨a, by omega, by omega, fun s q => by have := e s q; omega⟩
def closed : List D := [.none, .bool true, .bool false, .int (-1), .int 0, .int 5, .int (-5), .int 99999, .int 100000, .int 10000000000000000000000000000000000000000, .str "", .str "port", .str "aport", .str "up", .str "Port", .str "ninethree", .str "a b", .str "a1", .dict [], .tuple [], .list [], .str "port ", .str "a\n", .dict [(.str "port", .int 1)], .tuple [.int 0, .str "port", .int 1]]
theorem closed_ok : ∀ d ∈ closed, oddB d = true := by decide +kernel

/-! names, and rows of them -/
theorem draw_to {k : Nat} {B many : Int} {pen : D} {P : Nat → D → En → Prop} (hp : PenOk B pen) (hB : B ≤ 1000000) (hm : 0 < many) (hm2 : many < 1073741824)
    (h : ∀ pen' r, PenOk (B + 1) pen' → 0 ≤ r → r < many → P 0 (.int r) [.ow 1 pen', .sh (.int many)]) : wc (run prog (k + 1) F__law_draw [.ow 1 pen, .sh (.int many)]) P :=
  wc_mono (sp_draw k hp hB hm hm2) fun m d o ⟨e1, pen', r, e2, h2, e3, h3, h4⟩ => by subst e1 e2 e3; exact h pen' r h2 h3 h4
theorem letters_ok : ∀ c ∈ ("abcdefghijklmnopqrstuvwxyz" : Str).cps.toList, 97 ≤ c ∧ c ≤ 122 := by decide +kernel
theorem letters_len : ("abcdefghijklmnopqrstuvwxyz" : Str).cps.toList.length = 26 := by decide +kernel
theorem nameOk_of {cs : List Nat} (h0 : 0 < cs.length) (h1 : cs.length ≤ 8) (h : ∀ c ∈ cs, 97 ≤ c ∧ c ≤ 122) : NameOk ⟨cs.toArray⟩ := ⟨h0, h1, by simpa using h⟩
def tenW : List Str := ["port", "star", "down", "up", "aport", "stop", "full", "bridge", "room", "none"]
theorem tenW_ok : ∀ s ∈ tenW, 1 ≤ s.length ∧ s.length ≤ 8 ∧ ∀ c ∈ s.cps.toList, 97 ≤ c ∧ c ≤ 122 := by decide +kernel

/-! things of any kind, numbers of a hundred figures -/
structure G1 (d : D) : Prop where
  sh : shOk d
  sz : rsz d ≤ 20000
  dp : d.depth ≤ 5
  st : ∀ s, d = .str s → s.length ≤ 1000
theorem g1_rep {d : D} (h : G1 d) : repOk d := repOk_of h.sh (by rw [sline_num]; have := h.sz; omega) (by have := h.dp; omega)
def Big (i : Int) : Prop := i.natAbs < 2 ^ 400
theorem big_log {i : Int} (h : Big i) : i.natAbs.log2 ≤ 399 := log2_lt h
theorem pow400 : (2 : Nat) ^ 400 = 2582249878086908589655919172003011874329705792829223512830659356540647622016841194629645353280137831435903171972747493376 := by decide +kernel
theorem big_of {i : Int} (h1 : -(10 ^ 101) < i) (h2 : i < 10 ^ 101) : Big i := by
  unfold Big
  rw [pow400]
  have e : (10 : Int) ^ 101 = 100000000000000000000000000000000000000000000000000000000000000000000000000000000000000000000000000000 := by decide +kernel
  rw [e] at h1 h2
  omega
theorem g1_int {i : Int} (h : Big i) : G1 (.int i) := by
  have := big_log h
  exact ⟨by simp only [shOk]; omega, by simp only [rsz]; omega, by simp [PyData.depth], fun s e => (by cases e)⟩
theorem g1_str {s : Str} (h1 : s.length ≤ 1000) (h2 : ∀ c ∈ s.cps.toList, c < 16 ^ 8) : G1 (.str s) :=
  ⟨by simp only [shOk]; exact h2, by simp only [rsz]; omega, by simp [PyData.depth], fun t e => by cases e; exact h1⟩
theorem ofString_ok (x : String) : ∀ c ∈ (Str.ofString x).cps.toList, c < 16 ^ 8 := by
  intro c hc
  rw [Str.ofString_eq_toList] at hc
  have hc : c ∈ x.toList.map Char.toNat := hc
  obtain ⟨ch, _, rfl⟩ := List.mem_map.mp hc
  have := ch.val.toNat_lt
  show ch.val.toNat < _
  omega
theorem g1_strInt {i : Int} (h : Big i) : G1 (.str (toString i)) := by
  have l2 := big_log h
  refine g1_str ?_ (ofString_ok _)
  have := shown_le (.int i) (by simp only [shOk]; omega)
  have e : (PyData.int i).shown = toString i := rfl
  rw [e] at this
  simp only [rsz] at this
  omega
theorem g1_closed {d : D} (h1 : shB d = true) (h2 : decide (rsz d ≤ 20000) = true) (h3 : decide (d.depth ≤ 5) = true) (h4 : (match d with | .str s => decide (s.length ≤ 1000) | _ => true) = true) : G1 d :=
  ⟨shB_ok d h1, of_decide_eq_true h2, of_decide_eq_true h3, fun s e => by subst e; exact of_decide_eq_true h4⟩
theorem sp_number (k : Nat) {B : Int} {pen : D} (hp : PenOk B pen) (hB : B ≤ 900000) : wc (run prog (k + 2) F__law_number [.ow 1 pen]) fun m d o => m = 0 ∧ ∃ pen' i, o = [.ow 1 pen'] ∧ PenOk (B + 10) pen' ∧ d = .int i ∧ Big i := by
  refine wc_run (F := T__law_number) rfl rfl ?_
  unfold T__law_number
  walk_at "pv"
  refine s_cut fun K hn hr hb hc => ?_
  walk_at "pv"
  refine draw_to hp (by omega) (by omega) (by omega) fun p1 r1 hp1 a1 b1 => ?_
  walk_at "pv"
  refine wat_of a1 (by simp; omega) fun dd hdd => ?_
  have ex : ∃ i : Int, dd = .int i ∧ -1000000000000000000000000000000 ≤ i ∧ i ≤ 1000000000000000000000000000000 := by
    clear hn hr hb hc
    have := List.mem_of_getElem? hdd
    simp only [List.mem_cons, List.not_mem_nil, or_false] at this
    rcases this with h | h | h | h | h | h <;> exact ⟨_, h, by omega, by omega⟩
  obtain ⟨i, rfl, i0, i1⟩ := ex
  try walk_at "pv"
  refine draw_to hp1 (by omega) (by omega) (by omega) fun p2 r2 hp2 a2 b2 => ?_
  walk_at "pv"
  refine hn _ ?_
  clear hn hr hb hc
  refine s_cut fun K hn hr hb hc => ?_
  walk_at "pv"
  refine draw_to hp2 (by omega) (by omega) (by omega) fun p3 r3 hp3 a3 b3 => ?_
  walk_at "pv"
  refine ⟨.inl ⟨by omega, by omega⟩, ?_⟩
  refine draw_to hp3 (by omega) (by omega) (by omega) fun p4 r4 hp4 a4 b4 => ?_
  walk_at "pv"
  refine hn _ ?_
  clear hn hr hb hc
  refine s_cut fun K hn hr hb hc => ?_
  walk_at "pv"
  refine draw_to hp4 (by omega) (by omega) (by omega) fun p5 r5 hp5 a5 b5 => ?_
  walk_at "pv"
  refine draw_to hp5 (by omega) (by omega) (by omega) fun p6 r6 hp6 a6 b6 => ?_
  walk_at "pv"
  refine draw_to hp6 (by omega) (by omega) (by omega) fun p7 r7 hp7 a7 b7 => ?_
  walk_at "pv"
  refine wat_of a7 (by simp; omega) fun dd hdd => ?_
  have ex : ∃ j : Int, dd = .int j ∧ Big j := by
    clear hn hr hb hc
    have t101 : (10 : Int) ^ 101 = 100000000000000000000000000000000000000000000000000000000000000000000000000000000000000000000000000000 := by decide +kernel
    have := List.mem_of_getElem? hdd
    simp only [List.mem_cons, List.not_mem_nil, or_false] at this
    rcases this with h | h | h | h | h | h <;> exact ⟨_, h, big_of (by rw [t101]; omega) (by rw [t101]; omega)⟩
  obtain ⟨j, rfl, hj⟩ := ex
  refine hr _ _ _ ?_
  clear hn hr hb hc
  walk_at "pv"
  exact ⟨p7, j, rfl, hp7.mono (by omega), rfl, hj⟩
theorem cutS_ok {x : Str} {lo hi : Option Int} {P : Nat → Prop} (h : ∀ c ∈ x.cps.toList, P c) : (L2.cutS x lo hi).length ≤ x.length ∧ ∀ c ∈ (L2.cutS x lo hi).cps.toList, P c := by
  unfold L2.cutS
  constructor
  · show ((x.cps.toList.drop _).take _).toArray.size ≤ x.cps.size
    simp only [List.size_toArray, List.length_take, List.length_drop, Array.length_toList]
    omega
  · intro c hc
    simp only at hc
    exact h c (List.mem_of_mem_drop (List.mem_of_mem_take hc))
theorem app_ok {x y : Str} {P : Nat → Prop} (h : ∀ c ∈ x.cps.toList, P c) (g : ∀ c ∈ y.cps.toList, P c) : (x ++ y).length = x.length + y.length ∧ ∀ c ∈ (x ++ y).cps.toList, P c := by
  constructor
  · exact strLen_append x y
  · intro c hc
    have hc : c ∈ (x.cps ++ y.cps).toList := hc
    simp only [Array.toList_append, List.mem_append] at hc
    exact hc.elim (h c) (g c)
theorem sp_text (k : Nat) {B : Int} {pen : D} (hp : PenOk B pen) (hB : B ≤ 900000) : wc (run prog (k + 2) F__law_text [.ow 1 pen]) fun m d o => m = 0 ∧ ∃ pen' s, o = [.ow 1 pen'] ∧ PenOk (B + 20) pen' ∧ d = .str s ∧ s.length ≤ 100 ∧ ∀ c ∈ s.cps.toList, c < 16 ^ 8 := by
  refine wc_run (F := T__law_text) rfl rfl ?_
  unfold T__law_text
  walk_at "pv"
  refine s_cut fun K hn hr hb hc => ?_
  walk_at "pv"
  refine hn _ ?_
  clear hn hr hb hc
  refine s_cut fun K hn hr hb hc => ?_
  walk_at "pv"
  refine hn _ ?_
  clear hn hr hb hc
  refine s_cut fun K hn hr hb hc => ?_
  walk_at "pv"
  refine draw_to hp (by omega) (by omega) (by omega) fun p1 way hp1 a1 b1 => ?_
  walk_at "pv"
  refine hn _ ?_
  clear hn hr hb hc
  refine s_cut fun K hn hr hb hc => ?_
  walk_at "pv"
  refine draw_to hp1 (by omega) (by omega) (by omega) fun p2 r2 hp2 a2 b2 => ?_
  walk_at "pv"
  refine draw_to hp2 (by omega) (by omega) (by omega) fun p3 r3 hp3 a3 b3 => ?_
  walk_at "pv"
  refine wat_of a3 (by simp; omega) fun dd hdd => ?_
  have ex : ∃ n : Int, dd = .int n ∧ 1 ≤ n ∧ n ≤ 8 := by
    clear hn hr hb hc
    have := List.mem_of_getElem? hdd
    simp only [List.mem_cons, List.not_mem_nil, or_false] at this
    rcases this with h | h | h <;> exact ⟨_, h, by omega, by omega⟩
  obtain ⟨n, rfl, n0, n1⟩ := ex
  walk_at "pv"
  refine ⟨by omega, ?_⟩
  refine compI (fun (rest : List Nat) acc e => ∃ (pen2 : D) (cs : List Nat), e = [.ow 1 pen2, .sh (.str "abcdefghijklmnopqrstuvwxyz"), .sh (.str " !\"#$&'()*+,-./0123456789:;<=>?@ABCDEFGHIJKLMNOPQRSTUVWXYZ[\\]^_`abcdefghijklmnopqrstuvwxyz{|}~\n"), .sh (.int way), .no, .no, .no, .no] ∧ PenOk (B + 15 - rest.length) pen2 ∧ acc = cs.map (fun c => PyData.str ⟨#[c]⟩) ∧ cs.length + rest.length = n.toNat ∧ ∀ c ∈ cs, 97 ≤ c ∧ c ≤ 122) ?_ ?_ ?_ ?_
  · simp [sline_num]; omega
  · walk_at "pv"
    exact ⟨_, [], rfl, hp3.mono (by simp; omega), rfl, by simp, by simp⟩
  · rintro x xs acc e ⟨pen2, cs, rfl, hp2, rfl, hl, hcs⟩
    walk_at "pv"
    refine wc_mono (sp_draw k hp2 (by simp; omega) (by omega) (by omega)) fun m d o h => ?_
    obtain ⟨rfl, pen3, r2, rfl, hp3, rfl, hq0, hq1⟩ := h
    walk_at "pv"
    refine ⟨by decide, wat_of hq0 (by rw [letters_len]; omega) fun c hc => ?_⟩
    refine ⟨pen3, cs ++ [c], rfl, hp3.mono (by simp; omega), by simp, by simp at hl ⊢; omega, fun z hz => ?_⟩
    rcases List.mem_append.mp hz with hz | hz
    · exact hcs z hz
    · rw [List.mem_singleton.mp hz]
      exact letters_ok c (List.mem_of_getElem? hc)
  rintro acc e1 ⟨pen2, cs, rfl, hp2, rfl, hl, hcs⟩
  have e : cs.map (fun c => PyData.str ⟨#[c]⟩) = (cs.map fun c => (⟨#[c]⟩ : Str)).map PyData.str := by rw [List.map_map]; rfl
  rw [e]
  simp only [List.length_nil, Int.natCast_zero, Nat.add_zero, Int.sub_zero] at hl hp2
  simp only [↓wp_bind, ↓wp_ret, ↓wp_ofO, ↓wp_rdS, ↓wp_rdO, ↓wp_wr, ↓wp_valM, ↓wp_boolM, ↓wp_bad, ↓wp_opM, ↓woA_o1, ↓woA_o2, ↓woA_2o, ↓wo_f1, ↓wo_f2, ↓wp_v1, ↓wp_lit, ↓wp_var, ↓wp_own, ↓wp_frz, ↓wp_glb, ↓wp_kidx, ↓wp_kin, ↓wp_bin, ↓wp_neg, ↓wp_tst, ↓wp_boolV, ↓wp_not, ↓wp_bo, ↓wp_and_nil, ↓wp_or_nil, ↓wp_and_1, ↓wp_or_1, ↓wp_and_cons, ↓wp_or_cons, ↓wo_cmpF, ↓wp_cmp, ↓wp_cmp2, ↓wp_ife, ↓wvs_nil, ↓wvs_cons, ↓wp_tup, ↓wp_lst, ↓wp_evs_nil, ↓wp_evs_cons, ↓wp_idx, ↓wp_oe_no, ↓wint_int, ↓wp_oe_so, ↓wp_slc, ↓wp_rev, ↓wp_by2, ↓wp_bi, ↓woA_b1, ↓woA_b2, ↓woA_bo, ↓wp_me, ↓wp_call, ↓wp_comp, ↓wp_popE, ↓wp_popV, ↓wp_compO, ↓wol_ow, ↓wp_it_seq, ↓wp_it_rng1, ↓wp_it_rng2, ↓wp_it_enum, ↓wp_it_zip2, ↓wp_it_rev, ↓wp_nm, ↓wp_tp, ↓wp_tpl, ↓wp_tp_nil, ↓wp_tp_cons, ↓wp_W_lst, ↓wp_W_lst2, ↓wp_Ws_nil, ↓wp_Ws_cons, ↓wls_l, ↓wp_W_slc, ↓wp_W_rev, ↓wp_W_bi, ↓wp_W_add, ↓wp_W_comp, ↓wp_W_call, ↓wp_W_ife, ↓wp_vM, ↓wp_s_nil, ↓wp_asg0, ↓wp_asgW, ↓wp_unp, ↓wp_aug, ↓wp_sto0, ↓wp_stoW, ↓wp_app0, ↓wp_appW, ↓wp_mc_reverse, ↓wp_mc_clear, ↓wp_mc_extend, ↓wp_sfrz, ↓wp_exp, ↓wp_ret0, ↓wp_retW, ↓wp_reto, ↓wp_retn, ↓wp_ite, ↓wp_for, ↓wp_whl, ↓wp_brk, ↓wp_cnt, ↓wp_pas, ↓wp_ebad, ↓wp_sbad, ↓wdc_v, ↓wdc_o, ↓wp_dget, ↓wp_dget2, ↓woA_3, ↓woA_o3, ↓woA_b3, ↓wp_dct, ↓wp_it_zipS, ↓wp_par, ↓wp_tryN, ↓wp_parL_nil, ↓wp_parL_cons, ↓b_mult, ↓b_mulli, ↓c_isb, ↓c_isnb, ↓c_insg, ↓c_ninsg, ↓i_dict, ↓d_get1, ↓d_get2, ↓f_all, ↓f_any, ↓f_max3, ↓f_min3, ↓f_divmod, ↓f_strs, ↓f_sorted, ↓f_srtK, ↓f_sortR, ↓f_lenset, ↓f_lrg, ↓f_lrg2, ↓f_dict, ↓r_tup, ↓q_zll, ↓q_ztt, ↓q_zsl, ↓q_zst, ↓wo_some, ↓wv_val, ↓wb_bool, ↓wsh_sh, ↓wow_ow, ↓wif_t, ↓wif_f, ↓wif_d, ↓wif_n, ↓wif_and, ↓wif_or, ↓wnx_nx, ↓wnx_rt, ↓wnx_bk, ↓wnx_ct, ↓wtn_nx, ↓wtn_ct, ↓wtn_bk, ↓wtn_rt, ↓wrl_ow, ↓wfin_rt, ↓wfin_nx, ↓wp_forL_nil, ↓b_add, ↓b_muls, ↓b_sub, ↓b_mull, ↓b_mulr, ↓b_mul, ↓b_fdivp, ↓b_fdiv, ↓b_modp, ↓b_mod, ↓b_pow, ↓b_adds, ↓b_addl, ↓b_addt, ↓n_int, ↓c_eqi, ↓c_nei, ↓c_eqs, ↓c_nes, ↓c_lt, ↓c_le, ↓c_gt, ↓c_ge, ↓c_is, ↓c_isn, ↓c_int, ↓c_inl, ↓c_nint, ↓c_ninl, ↓i_list, ↓i_tup, ↓i_str, ↓wat_map, ↓wat_0, ↓wat_1, ↓wat_2, ↓wat_3, ↓wat_4, ↓wat_5, ↓wat_6, ↓wat_7, ↓wat_8, ↓s_0, ↓s_1, ↓s_2, ↓s_3, ↓s_4, ↓s_5, ↓a_list, ↓e_list, ↓m_reverse, ↓m_clear, ↓g_add, ↓g_sub, ↓f_lenl, ↓f_lent, ↓f_lens, ↓f_abs, ↓f_max, ↓f_min, ↓f_minD, ↓f_maxD, ↓f_zfill, ↓f_intb, ↓f_int, ↓f_tupl, ↓f_tupt, ↓f_lstl, ↓f_lstt, ↓f_isa, ↓f_repr, ↓f_str, ↓f_sset, ↓q_list, ↓q_tup, ↓q_enl, ↓q_ent, ↓q_revl, ↓q_revt, ↓l_list, ↓l_tup, ↓l_str, ↓r_list, ↓y_by2, ↓wrng_0, isA_ss, isA_ll, isA_tt, rootBi, freshBi, meT, sline_num, eqv_ss, eqv_ii, List.any_cons, List.any_nil, Bool.or_false, we_eq, wo_some, wsh_sh, wow_ow, wrl_ow, List.getElem?_cons_succ, List.getElem?_cons_zero, List.set_cons_succ, List.set_cons_zero, List.length_cons, List.length_nil, List.length_map, List.map_cons, List.map_nil, wif_t, wif_f, wnx_nx, wnx_rt, frOk_int, frOk_str, frOk_bool, frOk_none, frOk_1, true_and, and_true, fillS, slotOf, ownSl, backS, finO, List.filterMap_cons, List.filterMap_nil, id, wo_map, List.nodup_cons, List.nodup_nil, List.not_mem_nil, not_false_eq_true, wcall, List.append_nil, List.nil_append, List.cons_append, ite_true, ite_false, if_true, if_false, wipe, putBack, shOf, List.foldr_cons, List.foldr_nil, beq_self_eq_true, Nat.reduceAdd, Nat.reduceLT, Nat.reduceLeDiff, Nat.reduceEqDiff, Nat.reduceSub, Nat.reduceMul, Nat.reducePow, Int.reducePow, Int.reduceToNat, Int.reduceLT, Int.reduceLE, Int.reduceNe, Int.reduceEq, Int.reduceNeg, Int.reduceAdd, Int.reduceSub, Int.reduceMul, List.replicate, ne_eq, not_true_eq_false, false_and, and_false, or_true, true_or, f_join, join_chars]
  refine ⟨?_, ?_⟩
  · unfold joinLen
    have : ∀ l : List Nat, ((l.map fun c => (⟨#[c]⟩ : Str)).map (·.length)).sum = l.length := fun l => by
      induction l with
      | nil => rfl
      | cons a l ih => simp only [List.map_cons, List.sum_cons, ih, List.length_cons]; show 1 + _ = _; omega
    rw [this]
    show _ + _ * 0 ≤ 16777216
    omega
  have wl : (⟨cs.toArray⟩ : Str).length ≤ 8 := by show cs.toArray.size ≤ 8; rw [List.size_toArray]; omega
  have wc0 : ∀ c ∈ (⟨cs.toArray⟩ : Str).cps.toList, c < 16 ^ 8 := fun c hc => by
    have := hcs c (by simpa using hc)
    omega
  generalize (⟨cs.toArray⟩ : Str) = w at wl wc0 ⊢
  refine hn _ ?_
  clear hn hr hb hc
  refine s_cut fun K hn hr hb hc => ?_
  walk_at "pv"
  refine ⟨by omega, ?_⟩
  refine draw_to hp2 (by omega) (by omega) (by omega) fun p4 at_ hp4 a4 b4 => ?_
  walk_at "pv"
  refine hn _ ?_
  clear hn hr hb hc
  refine s_cut fun K hn hr hb hc => ?_
  have sl : (Str.ofString " !\"#$&'()*+,-./0123456789:;<=>?@ABCDEFGHIJKLMNOPQRSTUVWXYZ[\\]^_`abcdefghijklmnopqrstuvwxyz{|}~\n").length = 95 := by decide +kernel
  have sl2 : (Str.ofString " !\"#$&'()*+,-./0123456789:;<=>?@ABCDEFGHIJKLMNOPQRSTUVWXYZ[\\]^_`abcdefghijklmnopqrstuvwxyz{|}~\n").cps.toList.length = 95 := by decide +kernel
  walk_at "pv"
  rw [sl]
  refine ⟨by decide, ?_⟩
  refine draw_to hp4 (by omega) (by omega) (by omega) fun p5 r5 hp5 a5 b5 => ?_
  walk_at "pv"
  refine ⟨by rw [sl]; decide, ?_⟩
  refine wat_of a5 (by rw [sl2]; omega) fun c hc2 => ?_
  have hcs1 : ∀ x ∈ (⟨#[c]⟩ : Str).cps.toList, x < 16 ^ 8 := fun x hx => by
    have : x = c := by simpa using hx
    rw [this]
    exact ofString_ok _ c (List.mem_of_getElem? hc2)
  have hsl : (⟨#[c]⟩ : Str).length = 1 := rfl
  generalize (⟨#[c]⟩ : Str) = sg at hcs1 hsl ⊢
  refine hn _ ?_
  clear hn hr hb hc
  refine s_cut fun K hn hr hb hc => ?_
  have ct := fun lo hi => cutS_ok (x := w) (lo := lo) (hi := hi) wc0
  walk_at "pv"
  refine ⟨fun g1 => ?_, fun g1 => ?_⟩
  · refine s_cut fun K hn hr hb hc => ?_
    walk_at "pv"
    refine hr _ _ _ ?_
    clear hn hr hb hc
    refine hr _ _ _ ?_
    clear hn hr hb hc
    walk_at "pv"
    exact ⟨p5, w, rfl, hp5.mono (by omega), rfl, by omega, wc0⟩
  refine hn _ ?_
  clear hn hr hb hc
  refine s_cut fun K hn hr hb hc => ?_
  walk_at "pv"
  refine ⟨fun g2 => ?_, fun g2 => ?_⟩
  · refine s_cut fun K hn hr hb hc => ?_
    walk_at "pv"
    have u1 := ct none (some at_)
    have u2 := app_ok u1.2 hcs1
    have u3 := ct (some at_) none
    have u4 := app_ok u2.2 u3.2
    refine ⟨by omega, by omega, by omega, by omega, ?_⟩
    refine hr _ _ _ ?_
    clear hn hr hb hc
    refine hr _ _ _ ?_
    clear hn hr hb hc
    walk_at "pv"
    exact ⟨p5, _, rfl, hp5.mono (by omega), rfl, by omega, u4.2⟩
  refine hn _ ?_
  clear hn hr hb hc
  refine s_cut fun K hn hr hb hc => ?_
  walk_at "pv"
  refine ⟨fun g3 => ?_, fun g3 => ?_⟩
  · refine s_cut fun K hn hr hb hc => ?_
    walk_at "pv"
    have u1 := ct none (some at_)
    have u2 := app_ok u1.2 hcs1
    have u3 := ct (some (at_ + 1)) none
    have u4 := app_ok u2.2 u3.2
    refine ⟨by omega, by omega, by omega, by omega, ?_⟩
    refine hr _ _ _ ?_
    clear hn hr hb hc
    refine hr _ _ _ ?_
    clear hn hr hb hc
    walk_at "pv"
    exact ⟨p5, _, rfl, hp5.mono (by omega), rfl, by omega, u4.2⟩
  refine hn _ ?_
  clear hn hr hb hc
  refine s_cut fun K hn hr hb hc => ?_
  walk_at "pv"
  have u1 := ct (some 1) none
  have u2 := app_ok wc0 wc0
  refine ⟨by omega, by omega, ?_⟩
  refine wat_of (by omega) (by simp; omega) fun dd hdd => ?_
  have ex : ∃ s : Str, dd = .str s ∧ s.length ≤ 100 ∧ ∀ c ∈ s.cps.toList, c < 16 ^ 8 := by
    clear hn hr hb hc
    have := List.mem_of_getElem? hdd
    simp only [List.mem_cons, List.not_mem_nil, or_false] at this
    rcases this with h | h
    · exact ⟨_, h, by omega, u1.2⟩
    · exact ⟨_, h, by omega, u2.2⟩
  obtain ⟨s, rfl, s0, s1⟩ := ex
  refine hr _ _ _ ?_
  clear hn hr hb hc
  walk_at "pv"
  exact ⟨p5, s, rfl, hp5.mono (by omega), rfl, s0, s1⟩
theorem sp_right (k : Nat) {d : D} (h : G1 d) : wc (run prog (k + 4) F__law_right [.sh d]) fun m d' o => m = 0 ∧ d' = .bool true ∧ o = [.sh d] := by
  have rep := g1_rep h
  have rp3 : repOk (.list [.bool (fromTo 0 99999 d), .bool (fromTo (-4) 4 d), .bool (nameD d)]) := repOk_of (by simp only [shOk, shOks]; exact ⟨trivial, trivial, trivial, trivial⟩) (by rw [sline_num]; simp only [rsz, rszs]; omega) (by simp [PyData.depth, PyData.depthAll])
  refine wc_run (F := T__law_right) rfl rfl ?_
  unfold T__law_right
  walk_at "pv"
  refine s_cut fun K hn hr hb hc => ?_
  walk_at "pv"
  refine ⟨rep, ?_⟩
  refine hn _ ?_
  clear hn hr hb hc
  refine s_cut fun K hn hr hb hc => ?_
  walk_at "pv"
  refine wc_mono (sp_lwhole (k + 2) d 0 99999) fun m d' o hh => ?_
  obtain ⟨rfl, rfl, rfl⟩ := hh
  walk_at "pv"
  refine wc_mono (sp_lwhole (k + 2) d (-4) 4) fun m d' o hh => ?_
  obtain ⟨rfl, rfl, rfl⟩ := hh
  walk_at "pv"
  refine wc_mono (sp_lnamed (k + 2) d h.st) fun m d' o hh => ?_
  obtain ⟨rfl, rfl, rfl⟩ := hh
  walk_at "pv"
  refine hn _ ?_
  clear hn hr hb hc
  refine s_cut fun K hn hr hb hc => ?_
  walk_at "pv"
  refine wc_mono (sp_minute k d) fun m d' o hh => ?_
  obtain ⟨rfl, rfl, rfl⟩ := hh
  walk_at "pv"
  refine wc_mono (sp_order k d) fun m d' o hh => ?_
  obtain ⟨rfl, rfl, rfl⟩ := hh
  walk_at "pv"
  refine wc_mono (sp_name (k + 2) d h.st) fun m d' o hh => ?_
  obtain ⟨rfl, rfl, rfl⟩ := hh
  walk_at "pv"
  refine hn _ ?_
  clear hn hr hb hc
  refine s_cut fun K hn hr hb hc => ?_
  walk_at "pv"
  refine wc_mono (sp_minute k d) fun m d' o hh => ?_
  obtain ⟨rfl, rfl, rfl⟩ := hh
  walk_at "pv"
  refine wc_mono (sp_order k d) fun m d' o hh => ?_
  obtain ⟨rfl, rfl, rfl⟩ := hh
  walk_at "pv"
  refine wc_mono (sp_name (k + 2) d h.st) fun m d' o hh => ?_
  obtain ⟨rfl, rfl, rfl⟩ := hh
  walk_at "pv"
  refine hn _ ?_
  clear hn hr hb hc
  refine s_cut fun K hn hr hb hc => ?_
  walk_at "pv"
  refine ⟨rp3, rp3, fun _ => ⟨rp3, rp3, fun _ => ⟨rep, ?_⟩, fun z => z.elim⟩, fun z => z.elim⟩
  refine hr _ _ _ ?_
  clear hn hr hb hc
  walk_at "pv"
  simp only [decide_true]
def lits : List D := [.none, .bool true, .bool false, .int 0, .int 1, .str "", .str "port", .tuple [], .list [], .dict [], .tuple [.str "a", .int 1]]
theorem lits_ok : ∀ d ∈ lits, G1 d := by
  intro d hd
  simp only [lits, List.mem_cons, List.not_mem_nil, or_false] at hd
  rcases hd with rfl | rfl | rfl | rfl | rfl | rfl | rfl | rfl | rfl | rfl | rfl <;>
    exact g1_closed (by decide +kernel) (by decide +kernel) (by decide +kernel) (by decide +kernel)
def Kin (d : D) : Prop := (∃ i, d = .int i ∧ Big i) ∨ ∃ s, d = .str s ∧ s.length ≤ 100 ∧ ∀ c ∈ s.cps.toList, c < 16 ^ 8
theorem kin_small {d : D} (h : Kin d) : shOk d ∧ rsz d ≤ 2000 ∧ d.depth = 0 ∧ G1 d := by
  rcases h with ⟨i, rfl, h⟩ | ⟨s, rfl, h1, h2⟩
  · have := big_log h
    exact ⟨(g1_int h).sh, by simp only [rsz]; omega, rfl, g1_int h⟩
  · have g := g1_str (s := s) (by omega) h2
    exact ⟨g.sh, by simp only [rsz]; omega, rfl, g⟩
theorem cut_map {α β : Type} (f : α → β) (xs : List α) (lo hi : Option Int) : cut (xs.map f) lo hi = (cut xs lo hi).map f := by
  unfold cut
  rw [List.length_map, List.map_take, List.map_drop]
theorem law_true (ns : List Int) (h : ns.length ≤ 63) : ∃ m o, run prog (60 + 1) F_law [.sh (.list (ns.map PyData.int))] = .ok m (.bool true) o := by
  refine run_of ?_
  refine wc_run (F := T_law) rfl rfl ?_
  unfold T_law
  walk_at "pv"
  refine s_cut fun K hn hr hb hc => ?_
  simp only [↓wp_bind, ↓wp_ret, ↓wp_ofO, ↓wp_rdS, ↓wp_rdO, ↓wp_wr, ↓wp_valM, ↓wp_boolM, ↓wp_bad, ↓wp_opM, ↓woA_o1, ↓woA_o2, ↓woA_2o, ↓wo_f1, ↓wo_f2, ↓wp_v1, ↓wp_lit, ↓wp_var, ↓wp_own, ↓wp_frz, ↓wp_glb, ↓wp_kidx, ↓wp_kin, ↓wp_bin, ↓wp_neg, ↓wp_tst, ↓wp_boolV, ↓wp_not, ↓wp_bo, ↓wp_and_nil, ↓wp_or_nil, ↓wp_and_1, ↓wp_or_1, ↓wp_and_cons, ↓wp_or_cons, ↓wo_cmpF, ↓wp_cmp, ↓wp_cmp2, ↓wp_ife, ↓wvs_nil, ↓wvs_cons, ↓wp_tup, ↓wp_lst, ↓wp_evs_nil, ↓wp_evs_cons, ↓wp_idx, ↓wp_oe_no, ↓wint_int, ↓wp_oe_so, ↓wp_slc, ↓wp_rev, ↓wp_by2, ↓wp_bi, ↓woA_b1, ↓woA_b2, ↓woA_bo, ↓wp_me, ↓wp_call, ↓wp_comp, ↓wp_popE, ↓wp_popV, ↓wp_compO, ↓wol_ow, ↓wp_it_seq, ↓wp_it_rng1, ↓wp_it_rng2, ↓wp_it_enum, ↓wp_it_zip2, ↓wp_it_rev, ↓wp_nm, ↓wp_tp, ↓wp_tpl, ↓wp_tp_nil, ↓wp_tp_cons, ↓wp_W_lst, ↓wp_W_lst2, ↓wp_Ws_nil, ↓wp_Ws_cons, ↓wls_l, ↓wp_W_slc, ↓wp_W_rev, ↓wp_W_bi, ↓wp_W_add, ↓wp_W_comp, ↓wp_W_call, ↓wp_W_ife, ↓wp_vM, ↓wp_s_nil, ↓wp_asg0, ↓wp_asgW, ↓wp_unp, ↓wp_aug, ↓wp_sto0, ↓wp_stoW, ↓wp_app0, ↓wp_appW, ↓wp_mc_reverse, ↓wp_mc_clear, ↓wp_mc_extend, ↓wp_sfrz, ↓wp_exp, ↓wp_ret0, ↓wp_retW, ↓wp_reto, ↓wp_retn, ↓wp_ite, ↓wp_for, ↓wp_whl, ↓wp_brk, ↓wp_cnt, ↓wp_pas, ↓wp_ebad, ↓wp_sbad, ↓wdc_v, ↓wdc_o, ↓wp_dget, ↓wp_dget2, ↓woA_3, ↓woA_o3, ↓woA_b3, ↓wp_dct, ↓wp_it_zipS, ↓wp_par, ↓wp_tryN, ↓wp_parL_nil, ↓wp_parL_cons, ↓b_mult, ↓b_mulli, ↓c_isb, ↓c_isnb, ↓c_insg, ↓c_ninsg, ↓i_dict, ↓d_get1, ↓d_get2, ↓f_all, ↓f_any, ↓f_max3, ↓f_min3, ↓f_divmod, ↓f_strs, ↓f_sorted, ↓f_srtK, ↓f_sortR, ↓f_lenset, ↓f_lrg, ↓f_lrg2, ↓f_dict, ↓r_tup, ↓q_zll, ↓q_ztt, ↓q_zsl, ↓q_zst, ↓wo_some, ↓wv_val, ↓wb_bool, ↓wsh_sh, ↓wow_ow, ↓wif_t, ↓wif_f, ↓wif_d, ↓wif_n, ↓wif_and, ↓wif_or, ↓wnx_nx, ↓wnx_rt, ↓wnx_bk, ↓wnx_ct, ↓wtn_nx, ↓wtn_ct, ↓wtn_bk, ↓wtn_rt, ↓wrl_ow, ↓wfin_rt, ↓wfin_nx, ↓wp_forL_nil, ↓b_add, ↓b_muls, ↓b_sub, ↓b_mull, ↓b_mulr, ↓b_mul, ↓b_fdivp, ↓b_fdiv, ↓b_modp, ↓b_mod, ↓b_pow, ↓b_adds, ↓b_addl, ↓b_addt, ↓n_int, ↓c_eqi, ↓c_nei, ↓c_eqs, ↓c_nes, ↓c_lt, ↓c_le, ↓c_gt, ↓c_ge, ↓c_is, ↓c_isn, ↓c_int, ↓c_inl, ↓c_nint, ↓c_ninl, ↓i_list, ↓i_tup, ↓i_str, ↓wat_map, ↓wat_0, ↓wat_1, ↓wat_2, ↓wat_3, ↓wat_4, ↓wat_5, ↓wat_6, ↓wat_7, ↓wat_8, ↓s_0, ↓s_1, ↓s_2, ↓s_3, ↓s_4, ↓s_5, ↓a_list, ↓e_list, ↓m_reverse, ↓m_clear, ↓g_add, ↓g_sub, ↓f_lenl, ↓f_lent, ↓f_lens, ↓f_abs, ↓f_max, ↓f_min, ↓f_minD, ↓f_maxD, ↓f_zfill, ↓f_intb, ↓f_int, ↓f_tupl, ↓f_tupt, ↓f_lstl, ↓f_lstt, ↓f_isa, ↓f_repr, ↓f_str, ↓f_sset, ↓q_list, ↓q_tup, ↓q_enl, ↓q_ent, ↓q_revl, ↓q_revt, ↓l_list, ↓l_tup, ↓l_str, ↓r_list, ↓y_by2, ↓wrng_0, isA_ss, isA_ll, isA_tt, rootBi, freshBi, meT, sline_num, eqv_ss, eqv_ii, List.any_cons, List.any_nil, Bool.or_false, we_eq, wo_some, wsh_sh, wow_ow, wrl_ow, List.getElem?_cons_succ, List.getElem?_cons_zero, List.set_cons_succ, List.set_cons_zero, List.length_cons, List.length_nil, List.length_map, List.map_cons, List.map_nil, wif_t, wif_f, wnx_nx, wnx_rt, frOk_int, frOk_str, frOk_bool, frOk_none, frOk_1, true_and, and_true, fillS, slotOf, ownSl, backS, finO, List.filterMap_cons, List.filterMap_nil, id, wo_map, List.nodup_cons, List.nodup_nil, List.not_mem_nil, not_false_eq_true, wcall, List.append_nil, List.nil_append, List.cons_append, ite_true, ite_false, if_true, if_false, wipe, putBack, shOf, List.foldr_cons, List.foldr_nil, beq_self_eq_true, Nat.reduceAdd, Nat.reduceLT, Nat.reduceLeDiff, Nat.reduceEqDiff, Nat.reduceSub, Nat.reduceMul, Nat.reducePow, Int.reducePow, Int.reduceToNat, Int.reduceLT, Int.reduceLE, Int.reduceNe, Int.reduceEq, Int.reduceNeg, Int.reduceAdd, Int.reduceSub, Int.reduceMul, List.replicate, ne_eq, not_true_eq_false, false_and, and_false, or_true, true_or, cut_map]
  have hp : PenOk 0 (.list [.list ((cut ns none (some 63)).map PyData.int), .int 0, .int 0]) := ⟨_, 0, 0, rfl, by unfold cut; rw [List.length_take, List.length_drop]; omega, by omega, by omega, by omega⟩
  refine hn _ ?_
  clear hn hr hb hc
  refine s_cut fun K hn hr hb hc => ?_
  walk_at "pv"
  refine forI (fun (rest : List Nat) e => ∃ pen s2 s3 s4, rest.length ≤ 16 ∧ PenOk (100 * (16 - rest.length)) pen ∧ e = [.sh (.list (ns.map PyData.int)), .ow 1 pen, s2, s3, s4]) ⟨_, _, _, _, by simp, hp.mono (by simp), rfl⟩ ?_ ?_
  · rintro x rest e ⟨pen, s2, s3, s4, hl, hpen, rfl⟩
    simp only [List.length_cons] at hl hpen
    walk_at "pv"
    refine s_cut fun K hn hr hb hc => ?_
    walk_at "pv"
    refine wc_mono (sp_number 58 hpen (by omega)) fun m d o hh => ?_
    obtain ⟨rfl, p1, i, rfl, hp1, rfl, hi⟩ := hh
    walk_at "pv"
    refine wc_mono (sp_text 58 hp1 (by omega)) fun m d o hh => ?_
    obtain ⟨rfl, p2, s, rfl, hp2, rfl, hs1, hs2⟩ := hh
    walk_at "pv"
    refine draw_to hp2 (by omega) (by omega) (by omega) fun p3 r3 hp3 a3 b3 => ?_
    walk_at "pv"
    refine wat_of a3 (by simp; omega) fun d hd => ?_
    have kd : Kin d := by
      clear hn hr hb hc
      have := List.mem_of_getElem? hd
      simp only [List.mem_cons, List.not_mem_nil, or_false] at this
      rcases this with h | h
      · exact .inl ⟨i, h, hi⟩
      · exact .inr ⟨s, h, hs1, hs2⟩
    obtain ⟨k1, k2, k3, k4⟩ := kin_small kd
    refine hn _ ?_
    clear hn hr hb hc
    refine s_cut fun K hn hr hb hc => ?_
    have st : ∃ t, biD .str1 [d] = some (.str t) ∧ G1 (.str t) := by
      rcases kd with ⟨j, rfl, hj⟩ | ⟨t, rfl, h1, h2⟩
      · have := big_log hj
        exact ⟨toString j, if_pos (by omega), g1_strInt hj⟩
      · exact ⟨t, rfl, g1_str (by omega) h2⟩
    obtain ⟨t, st1, st2⟩ := st
    walk_at "pv"
    rw [show dctD [.str "a", d] = some (.dict [(.str "a", d)]) from rfl, wo_some, st1, wo_some]
    refine draw_to hp3 (by omega) (by omega) (by omega) fun p4 r4 hp4 a4 b4 => ?_
    walk_at "pv"
    refine wat_of a4 (by simp; omega) fun w hw => ?_
    have gw : G1 w := by
      clear hn hr hb hc
      have := List.mem_of_getElem? hw
      simp only [List.mem_cons, List.not_mem_nil, or_false] at this
      rcases this with rfl | rfl | rfl | rfl | rfl | rfl
      · exact k4
      · exact k4
      · exact ⟨by simp only [shOk, shOks]; exact ⟨k1, trivial⟩, by simp only [rsz, rszs]; omega, by simp only [PyData.depth, PyData.depthAll]; omega, fun s e => (by cases e)⟩
      · exact ⟨by simp only [shOk, shOks]; exact ⟨k1, trivial⟩, by simp only [rsz, rszs]; omega, by simp only [PyData.depth, PyData.depthAll]; omega, fun s e => (by cases e)⟩
      · have la : ("a" : Str).length = 1 := rfl
        exact ⟨by simp only [shOk, shOkk]; exact ⟨⟨by decide +kernel, k1⟩, trivial⟩, by simp only [rsz, rszk]; omega, by simp only [PyData.depth, PyData.depthKv]; omega, fun s e => (by cases e)⟩
      · exact st2
    refine hn _ ?_
    clear hn hr hb hc
    refine s_cut fun K hn hr hb hc => ?_
    walk_at "pv"
    refine wc_mono (sp_right 56 k4) fun m d' o hh => ?_
    obtain ⟨rfl, rfl, rfl⟩ := hh
    walk_at "pv"
    refine wc_mono (sp_right 56 gw) fun m d' o hh => ?_
    obtain ⟨rfl, rfl, rfl⟩ := hh
    walk_at "pv"
    refine hn _ ?_
    clear hn hr hb hc
    walk_at "pv"
    exact ⟨_, _, _, _, by omega, hp4.mono (by omega), rfl⟩
  · rintro e ⟨pen, s2, s3, s4, hl, hpen, rfl⟩
    refine hn _ ?_
    clear hn hr hb hc
    refine s_cut fun K hn hr hb hc => ?_
    walk_at "pv"
    rw [show dctD [] = some (.dict []) from rfl, wo_some]
    show wp (compM [3] (lits.map id) _ _ _) _ _
    refine compP (fun d : D => some (.bool true)) (by rw [sline_num]; decide) (fun d hd => ?_) ?_
    · simp only [↓wp_bind, ↓wp_ret, ↓wp_ofO, ↓wp_rdS, ↓wp_rdO, ↓wp_wr, ↓wp_valM, ↓wp_boolM, ↓wp_bad, ↓wp_opM, ↓woA_o1, ↓woA_o2, ↓woA_2o, ↓wo_f1, ↓wo_f2, ↓wp_v1, ↓wp_lit, ↓wp_var, ↓wp_own, ↓wp_frz, ↓wp_glb, ↓wp_kidx, ↓wp_kin, ↓wp_bin, ↓wp_neg, ↓wp_tst, ↓wp_boolV, ↓wp_not, ↓wp_bo, ↓wp_and_nil, ↓wp_or_nil, ↓wp_and_1, ↓wp_or_1, ↓wp_and_cons, ↓wp_or_cons, ↓wo_cmpF, ↓wp_cmp, ↓wp_cmp2, ↓wp_ife, ↓wvs_nil, ↓wvs_cons, ↓wp_tup, ↓wp_lst, ↓wp_evs_nil, ↓wp_evs_cons, ↓wp_idx, ↓wp_oe_no, ↓wint_int, ↓wp_oe_so, ↓wp_slc, ↓wp_rev, ↓wp_by2, ↓wp_bi, ↓woA_b1, ↓woA_b2, ↓woA_bo, ↓wp_me, ↓wp_call, ↓wp_comp, ↓wp_popE, ↓wp_popV, ↓wp_compO, ↓wol_ow, ↓wp_it_seq, ↓wp_it_rng1, ↓wp_it_rng2, ↓wp_it_enum, ↓wp_it_zip2, ↓wp_it_rev, ↓wp_nm, ↓wp_tp, ↓wp_tpl, ↓wp_tp_nil, ↓wp_tp_cons, ↓wp_W_lst, ↓wp_W_lst2, ↓wp_Ws_nil, ↓wp_Ws_cons, ↓wls_l, ↓wp_W_slc, ↓wp_W_rev, ↓wp_W_bi, ↓wp_W_add, ↓wp_W_comp, ↓wp_W_call, ↓wp_W_ife, ↓wp_vM, ↓wp_s_nil, ↓wp_asg0, ↓wp_asgW, ↓wp_unp, ↓wp_aug, ↓wp_sto0, ↓wp_stoW, ↓wp_app0, ↓wp_appW, ↓wp_mc_reverse, ↓wp_mc_clear, ↓wp_mc_extend, ↓wp_sfrz, ↓wp_exp, ↓wp_ret0, ↓wp_retW, ↓wp_reto, ↓wp_retn, ↓wp_ite, ↓wp_for, ↓wp_whl, ↓wp_brk, ↓wp_cnt, ↓wp_pas, ↓wp_ebad, ↓wp_sbad, ↓wdc_v, ↓wdc_o, ↓wp_dget, ↓wp_dget2, ↓woA_3, ↓woA_o3, ↓woA_b3, ↓wp_dct, ↓wp_it_zipS, ↓wp_par, ↓wp_tryN, ↓wp_parL_nil, ↓wp_parL_cons, ↓b_mult, ↓b_mulli, ↓c_isb, ↓c_isnb, ↓c_insg, ↓c_ninsg, ↓i_dict, ↓d_get1, ↓d_get2, ↓f_all, ↓f_any, ↓f_max3, ↓f_min3, ↓f_divmod, ↓f_strs, ↓f_sorted, ↓f_srtK, ↓f_sortR, ↓f_lenset, ↓f_lrg, ↓f_lrg2, ↓f_dict, ↓r_tup, ↓q_zll, ↓q_ztt, ↓q_zsl, ↓q_zst, ↓wo_some, ↓wv_val, ↓wb_bool, ↓wsh_sh, ↓wow_ow, ↓wif_t, ↓wif_f, ↓wif_d, ↓wif_n, ↓wif_and, ↓wif_or, ↓wnx_nx, ↓wnx_rt, ↓wnx_bk, ↓wnx_ct, ↓wtn_nx, ↓wtn_ct, ↓wtn_bk, ↓wtn_rt, ↓wrl_ow, ↓wfin_rt, ↓wfin_nx, ↓wp_forL_nil, ↓b_add, ↓b_muls, ↓b_sub, ↓b_mull, ↓b_mulr, ↓b_mul, ↓b_fdivp, ↓b_fdiv, ↓b_modp, ↓b_mod, ↓b_pow, ↓b_adds, ↓b_addl, ↓b_addt, ↓n_int, ↓c_eqi, ↓c_nei, ↓c_eqs, ↓c_nes, ↓c_lt, ↓c_le, ↓c_gt, ↓c_ge, ↓c_is, ↓c_isn, ↓c_int, ↓c_inl, ↓c_nint, ↓c_ninl, ↓i_list, ↓i_tup, ↓i_str, ↓wat_map, ↓wat_0, ↓wat_1, ↓wat_2, ↓wat_3, ↓wat_4, ↓wat_5, ↓wat_6, ↓wat_7, ↓wat_8, ↓s_0, ↓s_1, ↓s_2, ↓s_3, ↓s_4, ↓s_5, ↓a_list, ↓e_list, ↓m_reverse, ↓m_clear, ↓g_add, ↓g_sub, ↓f_lenl, ↓f_lent, ↓f_lens, ↓f_abs, ↓f_max, ↓f_min, ↓f_minD, ↓f_maxD, ↓f_zfill, ↓f_intb, ↓f_int, ↓f_tupl, ↓f_tupt, ↓f_lstl, ↓f_lstt, ↓f_isa, ↓f_repr, ↓f_str, ↓f_sset, ↓q_list, ↓q_tup, ↓q_enl, ↓q_ent, ↓q_revl, ↓q_revt, ↓l_list, ↓l_tup, ↓l_str, ↓r_list, ↓y_by2, ↓wrng_0, isA_ss, isA_ll, isA_tt, rootBi, freshBi, meT, sline_num, eqv_ss, eqv_ii, List.any_cons, List.any_nil, Bool.or_false, we_eq, wo_some, wsh_sh, wow_ow, wrl_ow, List.getElem?_cons_succ, List.getElem?_cons_zero, List.set_cons_succ, List.set_cons_zero, List.length_cons, List.length_nil, List.length_map, List.map_cons, List.map_nil, wif_t, wif_f, wnx_nx, wnx_rt, frOk_int, frOk_str, frOk_bool, frOk_none, frOk_1, true_and, and_true, fillS, slotOf, ownSl, backS, finO, List.filterMap_cons, List.filterMap_nil, id, wo_map, List.nodup_cons, List.nodup_nil, List.not_mem_nil, not_false_eq_true, wcall, List.append_nil, List.nil_append, List.cons_append, ite_true, ite_false, if_true, if_false, wipe, putBack, shOf, List.foldr_cons, List.foldr_nil, beq_self_eq_true, Nat.reduceAdd, Nat.reduceLT, Nat.reduceLeDiff, Nat.reduceEqDiff, Nat.reduceSub, Nat.reduceMul, Nat.reducePow, Int.reducePow, Int.reduceToNat, Int.reduceLT, Int.reduceLE, Int.reduceNe, Int.reduceEq, Int.reduceNeg, Int.reduceAdd, Int.reduceSub, Int.reduceMul, List.replicate, ne_eq, not_true_eq_false, false_and, and_false, or_true, true_or, id_eq]
      refine wc_mono (sp_right 56 (lits_ok d hd)) fun m d' o hh => ?_
      obtain ⟨rfl, rfl, rfl⟩ := hh
      walk_at "pv"
    rw [show lits.filterMap (fun d : D => some (PyData.bool true)) = ([true, true, true, true, true, true, true, true, true, true, true] : List Bool).map PyData.bool from rfl]
    walk_at "pv"
    refine hr _ _ _ ?_
    clear hn hr hb hc
    walk_at "pv"
    exact rfl

end L01
open PySem PySem.W PySem.Calls PyProof.Rows
theorem PySem.Challenge.cw_ringorders_k01_minutes_orders_names_know_holds : PySem.Challenge.rw_ringorders_k01_minutes_orders_names_know.Holds := by
  w_on; o_law
  refine HandSHeadRun.head_any (r := OpenLaw.row PySem.Challenge.rw_ringorders_k01_minutes_orders_names_know) (q := view (OpenLaw.row PySem.Challenge.rw_ringorders_k01_minutes_orders_names_know).prog [17]) (H := L01.hk) (ob := L01.ob) (M := 1320) (loose := L01.loose) (d := HandSHeadRun.topDef (OpenLaw.row PySem.Challenge.rw_ringorders_k01_minutes_orders_names_know).prog 17) (kwd := []) L01.ob_eq
    (by kernel_rfl) (fun s => by kernel_rfl) L01.run0 (by kernel_rfl) (by kernel_rfl) (by kernel_rfl) (by rfl) (by first | assumption | decide +kernel) (by decide +kernel) ⟨rfl, rfl, rfl, rfl, rfl, by decide +kernel⟩ ?hw ?hc
  case hw => w_witness2
  case hc =>
    exact Pv.law_walk (l := PySem.Challenge.rw_ringorders_k01_minutes_orders_names_know) (n := 63) (k := 60) (f := L01.F_law) (x := "_law_script") (nm := "law") (T := L01.TX) (P := L01.prog) (DS := L01.DS) (dl := L01.d_law) (m := 4) (fa := L01.fa) rfl (by decide) (by kernel_rfl) ⟨rfl, by decide, by decide⟩ (by kernel_rfl) L01.chk (by kernel_rfl) (by kernel_rfl) rfl rfl rfl rfl
      (List.mem_of_getElem? (i := 14) rfl) L01.law_true
