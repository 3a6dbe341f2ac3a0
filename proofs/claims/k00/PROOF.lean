import PyProof.Rows.All
import Wide.All
import OpenK.AllK
import Wide.FinOn
import KE.KTupSum
import HandS.ForMost
import HandS.Wide
import HandS.Style
import HandS.Gcd
import KE.KMathG
import Flt.RightSqrt
import HandS.Conv
import HandS.Star
import HandS.TupAny
import HandS.IsInst
import HandS.Zip
import HandS.Evl
import HandS.WordsExc
import HandS.Defaults
import HandS.Head0
import HandS.Head1
import HandS.Head2
import HandS.Head3
import HandS.HeadEnd
import HandS.HeadHook1
import HandS.HeadHook2
import HandS.HeadHook3
import HandS.HeadHook4
import HandS.FStr
import KE.KEqSeq
import PySem.Challenge.RW_sourceforms_k00_whole_ratios

set_option Elab.async false
set_option linter.all false
set_option maxRecDepth 100000
set_option maxHeartbeats 4000000
/-! rules of mine: a tuple turned round by a slice, the sum of a tuple -/
namespace MyR
open PySem PySem.Spec PyProof.Rows L2 HT
section
variable {prog : Program} {w : World} {A : Around} {E : Value → Shared → Prop} {s : Shared}
theorem places_rev (n : Nat) : Builtin.Slice.slicePlaces ((n : Int) - 1) (-1) (-1) = n := by
  unfold Builtin.Slice.slicePlaces
  have h1 : ¬ ((-1 : Int) > 0) := by decide
  rw [if_neg h1]
  by_cases h : (n : Int) - 1 > -1
  · rw [if_pos h, show (- -1 : Int) = 1 by decide, Int.ediv_one]
    omega
  · rw [if_neg h]
    have : n = 0 := by omega
    subst this
    rfl
theorem sliceApplied_rev {sl : Addr} {vs : Value} {n : Nat} {Q : Int × Int × Nat → Shared → Prop} (hs : s.heap.IsSliceOf sl .none .none vs) (ps : IsPart vs (some (-1)))
    (h : Q ((n : Int) - 1, -1, n) s) : wpAny (model prog w) A (Builtin.Slice.sliceApplied (.ref sl) (pure (n : Int))) Q E s := by
  obtain ⟨os, hos, hcs, hds⟩ := id hs
  unfold Builtin.Slice.sliceApplied Builtin.Slice.sliceFields
  refine wpAny_bind (wpAny_bind (wpAny_field hos hds (x := .none) rfl (wpAny_bind (wpAny_field hos hds (x := .none) rfl (wpAny_bind (wpAny_field hos hds (x := vs) rfl (wpAny_pure ?_)))))))
  refine wpAny_bind (slicePart_ ps ?_)
  show wpAny _ _ (if ((-1 : Int) == 0) = true then _ else _) _ _ s
  rw [if_neg (by decide)]
  refine wpAny_bind (slicePart_none (wpAny_bind (slicePart_none (wpAny_bind (wpAny_pure ?_)))))
  show wpAny _ _ (pure ((n : Int) - 1, (-1 : Int), Builtin.Slice.slicePlaces ((n : Int) - 1) (-1) (-1))) _ _ s
  rw [places_rev]
  exact wpAny_pure h
theorem filterMap_all {α : Type} {f : Nat → Option α} {g : Nat → α} : ∀ l : List Nat, (∀ m ∈ l, f m = some (g m)) → l.filterMap f = l.map g
  | [], _ => rfl
  | a :: r, h => by
    rw [List.filterMap_cons, h a List.mem_cons_self, List.map_cons, filterMap_all r fun m hm => h m (List.mem_cons_of_mem _ hm)]
theorem pick_rev (xs : Array Value) : ((List.range xs.size).filterMap fun (m : Nat) => xs[((xs.size : Int) - 1 + (m : Int) * -1).toNat]?).toArray = xs.toList.reverse.toArray := by
  congr 1
  apply List.ext_getElem?
  intro i
  have e : (List.range xs.size).filterMap (fun (m : Nat) => xs[((xs.size : Int) - 1 + (m : Int) * -1).toNat]?) = (List.range xs.size).map (fun (m : Nat) => xs.toList.reverse.getD m .none) := by
    refine filterMap_all _ fun m hm => ?_
    have hm := List.mem_range.mp hm
    have e1 : ((xs.size : Int) - 1 + (m : Int) * -1).toNat = xs.size - 1 - m := by omega
    have hm' : m < xs.toList.reverse.length := by rw [List.length_reverse, Array.length_toList]; exact hm
    rw [e1, List.getD_eq_getElem?_getD, List.getElem?_eq_getElem hm', Array.getElem?_eq_getElem (by omega)]
    rw [List.getElem_reverse]
    simp only [Array.length_toList, Array.getElem_toList, Option.getD_some]
  rw [e, List.getElem?_map]
  by_cases h : i < xs.size
  · have h' : i < xs.toList.reverse.length := by rw [List.length_reverse, Array.length_toList]; exact h
    rw [List.getElem?_range h, List.getElem?_eq_getElem h']
    show some (xs.toList.reverse.getD i .none) = _
    rw [List.getD_eq_getElem?_getD, List.getElem?_eq_getElem h']
    rfl
  · rw [List.getElem?_eq_none (by rw [List.length_range]; omega), List.getElem?_eq_none (by rw [List.length_reverse, Array.length_toList]; omega)]
    rfl
theorem getItem_tuple_rev {t sl : Addr} {items : Array Value} {vs : Value} {Q : Value → Shared → Prop} (ht : IsTup s.heap t items) (hs : s.heap.IsSliceOf sl .none .none vs) (ps : IsPart vs (some (-1)))
    (h : Q (.ref s.heap.objs.size) { s with heap := s.heap.push { cls := .type "tuple", data := .seq items.toList.reverse.toArray } })
    (hsz : items.size ≤ sizeLine) : wpAny (model prog w) A (getItem (.ref t) (.ref sl)) Q E s := by
  have htake : sizeOk (.seq items.toList.reverse.toArray) := by
    show items.toList.reverse.toArray.size ≤ sizeLine
    rw [List.size_toArray, List.length_reverse, Array.length_toList]
    exact hsz
  obtain ⟨os, hos, hcs, hds⟩ := id hs
  have hTs : s.TypeIs (.ref sl) "slice" := ⟨os, hos, hcs⟩
  unfold getItem
  try with_reducible refine wpAny_holding ?_
  first | refine wpAny_bind (wpAny_pure ?_) | skip
  refine wpAny_bind (wpAny_sequenceKey ht.typeIs (by decide) ?_)
  refine wpAny_bind (wpAny_callSpecial?_slot (name := Str.ofString "__getitem__") ht.typeIs PyProof.Rows.slot_tuple_getitem
    (wpAny_call_entry PyProof.Rows.slot_tuple_getitem ht.typeIs entry_tuple_getitem ?_ (args_tuple_getitem _ _)))
  show wpAny _ _ (Builtin.Tuple.tupleItemsOf (.ref t) >>= _) _ _ s
  refine wpAny_bind (tupleItemsOf_ ht ?_)
  refine wpAny_bind (wpAny_typeOf hTs ?_)
  rw [if_pos (by decide)]
  refine wpAny_bind (sliceApplied_rev (n := items.size) hs ps ?_)
  have hno : ¬ ((((items.size : Int) - 1) == 0 && (-1 : Int) == 1 && items.size == items.size) = true) := by
    intro q
    rw [Bool.and_eq_true, Bool.and_eq_true] at q
    exact absurd q.1.2 (by decide)
  show wpAny _ _ (if ((((items.size : Int) - 1) == 0 && (-1 : Int) == 1 && items.size == items.size) = true) then _ else _) _ _ s
  rw [if_neg hno, pick_rev]
  first
    | exact wpAny_bind (m := Builtin.Tuple.tupleExact _) (wpAny_newObj_type (wpAny_pure ⟨_, rfl, wpAny_pure h⟩) htake)
    | exact wpAny_bind (m := Builtin.Tuple.tupleExact _) (wpAny_newObj_type (wpAny_bind (wpAny_pure (wpAny_pure ⟨_, rfl, wpAny_pure h⟩))) htake)
    | exact wpAny_bind (wpAny_bind (m := Builtin.Tuple.tupleExact _) (wpAny_newObj_type (wpAny_pure (wpAny_pure ⟨_, rfl, wpAny_pure h⟩)) htake))
    | exact wpAny_bind (wpAny_bind (m := Builtin.Tuple.tupleExact _) (wpAny_newObj_type (wpAny_pure ⟨_, rfl, wpAny_pure h⟩) htake))
theorem sumT_raw {l : Addr} {its : List Value} {ns : List Int} {Q : Value → Shared → Prop} (hh : A.handled = none) (hl : s.heap.IsTuple l its.toArray) (hi : IntsAre its ns)
    (h : ∀ h' tk t', (∀ b o, s.heap.get? b = some o → h'.get? b = some o) → Q (.int ns.sum t') { s with heap := h', toks := tk }) : wpAny (model prog w) A (call (.builtin "sum") [.ref l]) Q E s := by
  obtain ⟨xs, e⟩ := hi.allInts.items
  have hn : numsOf (intItems xs).toList = ns := by rw [← e]; exact hi.numsOf
  rw [nums_intItems] at hn
  rw [e] at hl
  refine PySem.W.ktm_sumG hh hl fun h' tk t' hk => ?_
  have := h h' tk t' hk
  rw [preSum_eq, List.take_of_length_le (by simp), hn]; exact this
end
section
variable {X : Cx}
/-- t[::-1], a new tuple -/
def tRevT (K : PySem.W.Frag) (te : TE) : TE := fun σ H Q => te σ H fun x H1 => ∃ a xs, x = .ref a ∧ SqT K H1 a xs ∧ ∀ p, H1 p = none → Q (.ref p) (upd H1 p (.tup xs.reverse))
theorem pe_revT {e : Expr} {te : TE} {k : Nat} {p1 p2 p3 pos : Pos} (he : PE X e te) : PE X (.Subscript e (.Slice none none (some (.UnaryOp .USub (.Constant (.int 1) k p1) p2)) p3) pos) (tRevT X.K te) := by
  refine ⟨fun pins s σ H Q I h => ?_⟩
  refine Subscript_ (thn (he.run pins s σ H _ I h) fun v s1 ⟨x, H1, I1, r1, q1⟩ => ?_)
  obtain ⟨a, xs, ex, hx, q⟩ := q1
  subst ex
  cases r1
  have hst : PO X (some (.UnaryOp .USub (.Constant (.int 1) k p1) p2)) (tPart (tUn (rU fun i => .int (-i)) (tC (.int 1)))) := po_some (pe_un un_neg pe_int)
  refine wpAny_Slice (thn (po_none.run pins s1 σ H1 (fun o H2 => o = none ∧ H2 = H1) I1 ⟨rfl, rfl⟩) fun vl s2 ⟨l, H2, I2, pl, el, e2⟩ => ?_)
  subst el e2
  refine thn (po_none.run pins s2 σ H2 (fun o H3 => o = none ∧ H3 = H2) I2 ⟨rfl, rfl⟩) fun vu s3 ⟨u, H3, I3, pu, eu, e3⟩ => ?_
  subst eu e3
  refine thn (hst.run pins s3 σ H3 (fun o H4 => o = some (-1) ∧ H4 = H3) I3 ⟨1, rfl, -1, rfl, rfl, rfl⟩) fun vs s4 ⟨o, H4, I4, ps, eo, e4⟩ => ?_
  subst eo e4
  have evl : vl = .none := by cases pl; rfl
  have evu : vu = .none := by cases pu; rfl
  subst evl evu
  have I5 : Inv X pins σ H4 { s4 with heap := s4.heap.push { cls := .type "slice", data := .fields #[.none, .none, vs] } } := I4.kept (t' := s4.toks) fun b ob q => Heap.get?_push_of_some _ q
  obtain ⟨its, r, ht, hz⟩ := I5.tuple hx
  have hlen := r.length
  show wpAny (model X.prog X.w) X.A (subscriptTail e (.Slice none none (some (.UnaryOp .USub (.Constant (.int 1) k p1) p2)) p3) (.ref a) (.ref s4.heap.objs.size)) (EP X pins σ Q) X.xe { s4 with heap := s4.heap.push { cls := .type "slice", data := .fields #[.none, .none, vs] } }
  refine tail_any (ops := [.ref a, .ref s4.heap.objs.size]) ht.typeIs (PyProof.Rows.slot_tuple_getitem.lookup) ?_ (by with_unfolding_all rfl)
  refine getItem_tuple_rev ht (Heap.IsSliceOf.new _ .none .none vs) ps ?_ (by rw [List.size_toArray]; omega)
  refine ⟨.ref _, _, I5.laid (t' := s4.toks) (o := .tup xs.reverse) (fun b ob q => Heap.get?_push_of_some _ q) (Nat.le_refl _) ?_, rfl, q _ (I5.hok.fresh (Nat.le_refl _))⟩
  exact ⟨by rw [List.length_reverse]; exact hz, _, r.reverse, IsTup.new _ _⟩
/-- sum of a tuple of ints -/
def rSumT (K : PySem.W.Frag) : List V → Hp → VK → Prop := fun vs H Q => ∃ (a : Addr) (ns : List Int), vs = [V.ref a] ∧ SqT K H a (ns.map V.int) ∧ Q (.int ns.sum) H
theorem cr_sumT (hc : X.calm = true) : CallR X (.builtin "sum") (rSumT X.K) := by
  intro pins s σ H vs us Q I r h
  obtain ⟨a, ns, rfl, hs, q⟩ := h
  obtain ⟨its, rv, hl, _⟩ := I.tuple hs
  rw [Vals.ref1 r]
  refine sumT_raw (I.ok.hd hc) ?_ (intsAre_of rv) fun h' tk t' hk => ⟨.int _, H, I.kept hk, ⟨_, rfl⟩, q⟩
  exact hl
/-- // by any int other than 0 -/
def CDivZ (_ j : Int) : Prop := j ≠ 0 ∧ j.natAbs.log2 < 9000
theorem op_fdivZ : OpR X (binaryOp .FloorDiv) (rI CDivZ fun i j => .int (i.fdiv j)) := opI fun i j _ _ _ _ _ hc q =>
  floordiv_int hc.1 q (.inl (PyProof.noPylong_of_log2 hc.2))
/-- math.isqrt of an int of at least 0 -/
def rIsqrt : List V → Hp → VK → Prop := fun vs H Q => ∃ a : Int, vs = [.int a] ∧ 0 ≤ a ∧ a.toNat.log2 < 9000 ∧ ∀ r : Nat, r * r ≤ a.toNat → a.toNat < (r + 1) * (r + 1) → Q (.int r) H
theorem cr_isqrt : CallR X (.builtin "math.isqrt") rIsqrt := by
  intro pins s σ H vs us Q I r h
  obtain ⟨a, rfl, h0, h1, q⟩ := h
  obtain ⟨t, rfl⟩ : ∃ t, us = [Value.int a t] := by
    cases r with
    | cons p q =>
      cases q
      obtain ⟨t, rfl⟩ := p
      exact ⟨t, rfl⟩
  have hs := PySem.Float64.isqrt_spec a.toNat
  exact PySem.call_function_meets PySem.W.MGF.kind_isqrt PySem.W.MGF.plain_isqrt PySem.W.MGF.entry_isqrt (PySem.W.MGF.args_isqrt _) (PySem.W.mg_run_isqrt a t (by omega) (by omega) (by omega)).meets ⟨.int _, H, I.tok _, ⟨_, rfl⟩, q _ hs.1 hs.2⟩
end
end MyR

set_option autoImplicit false
set_option maxRecDepth 100000
set_option maxHeartbeats 4000000
set_option Elab.async false
namespace K00
/-! ### ratios -/
def gI (t b : Int) : Int := ((Nat.gcd t.natAbs b.natAbs : Nat) : Int)
def pI (t b : Int) : Int := if b > 0 then gI t b else -(gI t b)
def low (t b : Int) : Int × Int := (t.fdiv (pI t b), b.fdiv (pI t b))
theorem gI_pos {t b : Int} (h : b ≠ 0) : 0 < gI t b := by
  have : 0 < Nat.gcd t.natAbs b.natAbs := Nat.gcd_pos_of_pos_right _ (Int.natAbs_pos.mpr h)
  unfold gI
  omega
theorem pI_ne {t b : Int} (h : b ≠ 0) : pI t b ≠ 0 := by
  have := gI_pos (t := t) h
  unfold pI
  split <;> omega
theorem pI_abs (t b : Int) : (pI t b).natAbs = Nat.gcd t.natAbs b.natAbs := by
  unfold pI gI
  split
  · rfl
  · rw [Int.natAbs_neg]
    rfl
theorem pI_dvd_l (t b : Int) : pI t b ∣ t := Int.natAbs_dvd_natAbs.mp (by rw [pI_abs]; exact Nat.gcd_dvd_left _ _)
theorem pI_dvd_r (t b : Int) : pI t b ∣ b := Int.natAbs_dvd_natAbs.mp (by rw [pI_abs]; exact Nat.gcd_dvd_right _ _)
theorem low_spec {t b : Int} (h : b ≠ 0) : t = pI t b * (low t b).1 ∧ b = pI t b * (low t b).2 := by
  obtain ⟨x, hx⟩ := pI_dvd_l t b
  obtain ⟨y, hy⟩ := pI_dvd_r t b
  have hp := pI_ne (t := t) h
  have e1 : (low t b).1 = x := by
    show t.fdiv (pI t b) = x
    have := Int.mul_fdiv_cancel_left (a := pI t b) x hp
    rw [← hx] at this
    exact this
  have e2 : (low t b).2 = y := by
    show b.fdiv (pI t b) = y
    have := Int.mul_fdiv_cancel_left (a := pI t b) y hp
    rw [← hy] at this
    exact this
  rw [e1, e2]
  exact ⟨hx, hy⟩
theorem low_pos {t b : Int} (h : b ≠ 0) : 0 < (low t b).2 := by
  obtain ⟨_, e⟩ := low_spec (t := t) h
  have g := gI_pos (t := t) h
  by_cases c : b > 0
  · have ep : pI t b = gI t b := by
      unfold pI
      rw [if_pos c]
    rw [ep] at e
    have h1 : 0 < gI t b * (low t b).2 := by omega
    exact Int.pos_of_mul_pos_right h1 (by omega) |> fun z => z
  · have ep : pI t b = -(gI t b) := by
      unfold pI
      rw [if_neg c]
    rw [ep, Int.neg_mul] at e
    have h1 : 0 < gI t b * (low t b).2 := by omega
    exact Int.pos_of_mul_pos_right h1 (by omega) |> fun z => z
theorem low_cop {t b : Int} (h : b ≠ 0) : Nat.gcd (low t b).1.natAbs (low t b).2.natAbs = 1 := by
  obtain ⟨e1, e2⟩ := low_spec (t := t) h
  have g := gI_pos (t := t) h
  have hg : Nat.gcd t.natAbs b.natAbs = (pI t b).natAbs * Nat.gcd (low t b).1.natAbs (low t b).2.natAbs := by
    rw [← Nat.gcd_mul_left, ← Int.natAbs_mul, ← Int.natAbs_mul, ← e1, ← e2]
  rw [pI_abs] at hg
  have hp : 0 < Nat.gcd t.natAbs b.natAbs := by
    unfold gI at g
    omega
  have : Nat.gcd t.natAbs b.natAbs * 1 = Nat.gcd t.natAbs b.natAbs * Nat.gcd (low t b).1.natAbs (low t b).2.natAbs := by
    rw [Nat.mul_one]
    exact hg
  exact (Nat.eq_of_mul_eq_mul_left hp this).symm
theorem low_eq {t b : Int} (h : b ≠ 0) : (low t b).1 * b = t * (low t b).2 := by
  obtain ⟨e1, e2⟩ := low_spec (t := t) h
  generalize low t b = z at *
  generalize pI t b = p at *
  rw [e1, e2, Int.mul_comm p z.2, ← Int.mul_assoc, Int.mul_comm (z.1 * z.2) p, Int.mul_assoc]
theorem low_le1 {t b : Int} (h : b ≠ 0) : (low t b).1.natAbs ≤ t.natAbs := by
  obtain ⟨e1, _⟩ := low_spec (t := t) h
  have hp : 0 < (pI t b).natAbs := Int.natAbs_pos.mpr (pI_ne h)
  have : t.natAbs = (pI t b).natAbs * (low t b).1.natAbs := by rw [← Int.natAbs_mul, ← e1]
  rw [this]
  exact Nat.le_mul_of_pos_left _ hp
theorem low_le2 {t b : Int} (h : b ≠ 0) : (low t b).2.natAbs ≤ b.natAbs := by
  obtain ⟨_, e1⟩ := low_spec (t := t) h
  have hp : 0 < (pI t b).natAbs := Int.natAbs_pos.mpr (pI_ne h)
  have : b.natAbs = (pI t b).natAbs * (low t b).2.natAbs := by rw [← Int.natAbs_mul, ← e1]
  rw [this]
  exact Nat.le_mul_of_pos_left _ hp
/-- the only ratio -/
theorem rat_uniq {x y u v : Int} (hy : 0 < y) (hv : 0 < v) (h1 : Nat.gcd x.natAbs y.natAbs = 1) (h2 : Nat.gcd u.natAbs v.natAbs = 1) (h : x * v = u * y) : x = u ∧ y = v := by
  have d1 : y.natAbs ∣ v.natAbs := by
    have a : y.natAbs ∣ x.natAbs * v.natAbs := by
      rw [← Int.natAbs_mul, h, Int.natAbs_mul]
      exact Nat.dvd_mul_left _ _
    exact Nat.Coprime.dvd_of_dvd_mul_left (show Nat.Coprime y.natAbs x.natAbs from by rw [Nat.Coprime, Nat.gcd_comm]; exact h1) a
  have d2 : v.natAbs ∣ y.natAbs := by
    have a : v.natAbs ∣ u.natAbs * y.natAbs := by
      rw [← Int.natAbs_mul, ← h, Int.natAbs_mul]
      exact Nat.dvd_mul_left _ _
    exact Nat.Coprime.dvd_of_dvd_mul_left (show Nat.Coprime v.natAbs u.natAbs from by rw [Nat.Coprime, Nat.gcd_comm]; exact h2) a
  have e : y.natAbs = v.natAbs := Nat.dvd_antisymm d1 d2
  have ey : y = v := by omega
  subst ey
  exact ⟨Int.eq_of_mul_eq_mul_right (by omega) h, rfl⟩
theorem low_uniq {t b x y : Int} (hb : b ≠ 0) (hy : 0 < y) (h1 : Nat.gcd x.natAbs y.natAbs = 1) (h : x * b = t * y) : low t b = (x, y) := by
  have e := low_eq (t := t) hb
  have k := rat_uniq (x := x) (y := y) (u := (low t b).1) (v := (low t b).2) hy (low_pos hb) h1 (low_cop hb) (by
    apply Int.eq_of_mul_eq_mul_right hb
    calc x * (low t b).2 * b = (x * b) * (low t b).2 := by rw [Int.mul_assoc, Int.mul_assoc, Int.mul_comm (low t b).2 b]
      _ = (t * y) * (low t b).2 := by rw [h]
      _ = (t * (low t b).2) * y := by rw [Int.mul_assoc, Int.mul_assoc, Int.mul_comm y]
      _ = ((low t b).1 * b) * y := by rw [e]
      _ = (low t b).1 * y * b := by rw [Int.mul_assoc, Int.mul_assoc, Int.mul_comm b y])
  rw [Prod.ext_iff]
  exact ⟨k.1.symm, k.2.symm⟩
/-! ### roots -/
theorem root_uniq {n a b : Nat} (h1 : a * a ≤ n) (h2 : n < (a + 1) * (a + 1)) (h3 : b * b ≤ n) (h4 : n < (b + 1) * (b + 1)) : a = b := by
  have x1 : ¬ a < b := fun z => by
    have := Nat.mul_le_mul (show a + 1 ≤ b from z) (show a + 1 ≤ b from z)
    omega
  have x2 : ¬ b < a := fun z => by
    have := Nat.mul_le_mul (show b + 1 ≤ a from z) (show b + 1 ≤ a from z)
    omega
  omega
/- the root of an int, if it has one -/
open Classical in
noncomputable def rt (n : Int) : Option Int := if n < 0 then none else if h : ∃ r : Nat, (r : Int) * r = n then some (Classical.choose h : Nat) else none
theorem rt_neg {n : Int} (h : n < 0) : rt n = none := by
  unfold rt
  rw [if_pos h]
theorem rt_of {n : Int} {r : Nat} (h0 : 0 ≤ n) (h1 : r * r ≤ n.toNat) (h2 : n.toNat < (r + 1) * (r + 1)) : rt n = if (r : Int) * r = n then some (r : Int) else none := by
  unfold rt
  rw [if_neg (by omega)]
  by_cases c : (r : Int) * r = n
  · rw [if_pos c]
    have hx : ∃ r : Nat, (r : Int) * r = n := ⟨r, c⟩
    rw [dif_pos hx]
    have e := Classical.choose_spec hx
    have e2 : ∀ s : Nat, (s : Int) * s = n → s * s = n.toNat := fun s hs => by
      have : ((s * s : Nat) : Int) = n := by rw [Int.natCast_mul]; exact hs
      omega
    have k := e2 _ e
    generalize Classical.choose hx = s at *
    have : s = r := root_uniq (n := n.toNat) (by omega) (by rw [← k]; exact Nat.mul_lt_mul'' (by omega) (by omega)) h1 h2
    rw [this]
  · rw [if_neg c, dif_neg]
    rintro ⟨s, hs⟩
    have k : s * s = n.toNat := by
      have : ((s * s : Nat) : Int) = n := by rw [Int.natCast_mul]; exact hs
      omega
    have : s = r := root_uniq (n := n.toNat) (by omega) (by rw [← k]; exact Nat.mul_lt_mul'' (by omega) (by omega)) h1 h2
    exact c (this ▸ hs)
theorem rt_sq (a : Int) : rt (a * a) = some (a.natAbs : Int) := by
  have e : ((a.natAbs : Int)) * (a.natAbs : Int) = a * a := by
    rw [← Int.natAbs_mul_self (a := a), Int.natCast_mul]
  have h0 : 0 ≤ a * a := by
    rw [← e]
    exact Int.mul_nonneg (Int.natCast_nonneg _) (Int.natCast_nonneg _)
  have k : a.natAbs * a.natAbs = (a * a).toNat := by
    have : ((a.natAbs * a.natAbs : Nat) : Int) = a * a := by rw [Int.natCast_mul]; exact e
    omega
  rw [rt_of (r := a.natAbs) h0 (by omega) (by rw [← k]; exact Nat.mul_lt_mul'' (by omega) (by omega)), if_pos e]
noncomputable def rtR (a b : Int) : Option (Int × Int) := match rt a, rt b with
  | some x, some y => some (x, y)
  | _, _ => none
theorem cop_sq {a b : Int} (h : Nat.gcd a.natAbs b.natAbs = 1) : Nat.gcd (a * a).natAbs (b * b).natAbs = 1 := by
  rw [Int.natAbs_mul, Int.natAbs_mul]
  have c : Nat.Coprime a.natAbs b.natAbs := h
  exact Nat.Coprime.mul_left (Nat.Coprime.mul_right c c) (Nat.Coprime.mul_right c c)
end K00

set_option Elab.async false
set_option linter.all false
set_option maxRecDepth 100000
set_option maxHeartbeats 4000000
namespace K00
open PySem PySem.Spec PyProof.Rows L2
theorem hu64 {k : Nat} {A : Around} (hr : Room k A) : A.units + 64 < cLine := hr.units
theorem same_upd0 {H : Hp} {p : Addr} {o : HO} (h : H p = none) : Same H (upd H p o) := fun b x e => by
  rw [upd_ne (ne_of_none e h)]
  exact e
def topS (i : Nat) : Stmt := PySem.Challenge.pw_sourceforms_k00_whole_ratios.main.body.getD i (.Pass ⟨0, 0, 0, 0⟩)
abbrev FnP (K : PySem.W.Frag) (x : Str) (st : Stmt) (f : Addr) (fd : FuncData) : Prop := FunD K x x (defArgs st) (defBody st) (defScope st) [] [] f fd
abbrev s_is_whole : Stmt := topS 8
abbrev N_is_whole : List Str := ["value"]
theorem sc_is_whole : FnScope N_is_whole ["value"] (defScope s_is_whole) := ⟨rfl, rfl, rfl, by decide +kernel, rfl, by decide +kernel, by decide +kernel⟩
abbrev s_is_short : Stmt := topS 9
abbrev N_is_short : List Str := ["value"]
theorem sc_is_short : FnScope N_is_short ["value"] (defScope s_is_short) := ⟨rfl, rfl, rfl, by decide +kernel, rfl, by decide +kernel, by decide +kernel⟩
abbrev s_are_short : Stmt := topS 10
abbrev N_are_short : List Str := ["value", "entry"]
theorem sc_are_short : FnScope N_are_short ["value"] (defScope s_are_short) := ⟨rfl, rfl, rfl, by decide +kernel, rfl, by decide +kernel, by decide +kernel⟩
abbrev s_require_short : Stmt := topS 11
abbrev N_require_short : List Str := ["value"]
theorem sc_require_short : FnScope N_require_short ["value"] (defScope s_require_short) := ⟨rfl, rfl, rfl, by decide +kernel, rfl, by decide +kernel, by decide +kernel⟩
abbrev s_lowest_of : Stmt := topS 13
abbrev N_lowest_of : List Str := ["top", "bottom", "part"]
theorem sc_lowest_of : FnScope N_lowest_of ["top", "bottom"] (defScope s_lowest_of) := ⟨rfl, rfl, rfl, by decide +kernel, rfl, by decide +kernel, by decide +kernel⟩
abbrev s_plus_of : Stmt := topS 14
abbrev N_plus_of : List Str := ["one", "other"]
theorem sc_plus_of : FnScope N_plus_of ["one", "other"] (defScope s_plus_of) := ⟨rfl, rfl, rfl, by decide +kernel, rfl, by decide +kernel, by decide +kernel⟩
abbrev s_minus_of : Stmt := topS 15
abbrev N_minus_of : List Str := ["one", "other"]
theorem sc_minus_of : FnScope N_minus_of ["one", "other"] (defScope s_minus_of) := ⟨rfl, rfl, rfl, by decide +kernel, rfl, by decide +kernel, by decide +kernel⟩
abbrev s_times_of : Stmt := topS 16
abbrev N_times_of : List Str := ["one", "other"]
theorem sc_times_of : FnScope N_times_of ["one", "other"] (defScope s_times_of) := ⟨rfl, rfl, rfl, by decide +kernel, rfl, by decide +kernel, by decide +kernel⟩
abbrev s_over_of : Stmt := topS 17
abbrev N_over_of : List Str := ["one", "other"]
theorem sc_over_of : FnScope N_over_of ["one", "other"] (defScope s_over_of) := ⟨rfl, rfl, rfl, by decide +kernel, rfl, by decide +kernel, by decide +kernel⟩
abbrev s_compared_of : Stmt := topS 18
abbrev N_compared_of : List Str := ["one", "other", "left", "right"]
theorem sc_compared_of : FnScope N_compared_of ["one", "other"] (defScope s_compared_of) := ⟨rfl, rfl, rfl, by decide +kernel, rfl, by decide +kernel, by decide +kernel⟩
abbrev s_whole_root : Stmt := topS 19
abbrev N_whole_root : List Str := ["number", "found"]
theorem sc_whole_root : FnScope N_whole_root ["number"] (defScope s_whole_root) := ⟨rfl, rfl, rfl, by decide +kernel, rfl, by decide +kernel, by decide +kernel⟩
abbrev s_root_in : Stmt := topS 20
abbrev N_root_in : List Str := ["ratio", "top", "bottom"]
theorem sc_root_in : FnScope N_root_in ["ratio"] (defScope s_root_in) := ⟨rfl, rfl, rfl, by decide +kernel, rfl, by decide +kernel, by decide +kernel⟩
abbrev s_text_of_ratio : Stmt := topS 21
abbrev N_text_of_ratio : List Str := ["ratio"]
theorem sc_text_of_ratio : FnScope N_text_of_ratio ["ratio"] (defScope s_text_of_ratio) := ⟨rfl, rfl, rfl, by decide +kernel, rfl, by decide +kernel, by decide +kernel⟩
abbrev s_is_pair_of_ratio : Stmt := topS 22
abbrev N_is_pair_of_ratio : List Str := ["value"]
theorem sc_is_pair_of_ratio : FnScope N_is_pair_of_ratio ["value"] (defScope s_is_pair_of_ratio) := ⟨rfl, rfl, rfl, by decide +kernel, rfl, by decide +kernel, by decide +kernel⟩
abbrev s_is_ratio_in : Stmt := topS 23
abbrev N_is_ratio_in : List Str := ["value"]
theorem sc_is_ratio_in : FnScope N_is_ratio_in ["value"] (defScope s_is_ratio_in) := ⟨rfl, rfl, rfl, by decide +kernel, rfl, by decide +kernel, by decide +kernel⟩
abbrev s_require_ratio : Stmt := topS 24
abbrev N_require_ratio : List Str := ["value"]
theorem sc_require_ratio : FnScope N_require_ratio ["value"] (defScope s_require_ratio) := ⟨rfl, rfl, rfl, by decide +kernel, rfl, by decide +kernel, by decide +kernel⟩
abbrev s_require_two : Stmt := topS 25
abbrev N_require_two : List Str := ["one", "other"]
theorem sc_require_two : FnScope N_require_two ["one", "other"] (defScope s_require_two) := ⟨rfl, rfl, rfl, by decide +kernel, rfl, by decide +kernel, by decide +kernel⟩
abbrev s_is_integer : Stmt := topS 26
abbrev N_is_integer : List Str := ["value"]
theorem sc_is_integer : FnScope N_is_integer ["value"] (defScope s_is_integer) := ⟨rfl, rfl, rfl, by decide +kernel, rfl, by decide +kernel, by decide +kernel⟩
abbrev s_is_ratio : Stmt := topS 27
abbrev N_is_ratio : List Str := ["value"]
theorem sc_is_ratio : FnScope N_is_ratio ["value"] (defScope s_is_ratio) := ⟨rfl, rfl, rfl, by decide +kernel, rfl, by decide +kernel, by decide +kernel⟩
abbrev s_lowest : Stmt := topS 28
abbrev N_lowest : List Str := ["top", "bottom"]
theorem sc_lowest : FnScope N_lowest ["top", "bottom"] (defScope s_lowest) := ⟨rfl, rfl, rfl, by decide +kernel, rfl, by decide +kernel, by decide +kernel⟩
abbrev s_plus : Stmt := topS 29
abbrev N_plus : List Str := ["one", "other"]
theorem sc_plus : FnScope N_plus ["one", "other"] (defScope s_plus) := ⟨rfl, rfl, rfl, by decide +kernel, rfl, by decide +kernel, by decide +kernel⟩
abbrev s_minus : Stmt := topS 30
abbrev N_minus : List Str := ["one", "other"]
theorem sc_minus : FnScope N_minus ["one", "other"] (defScope s_minus) := ⟨rfl, rfl, rfl, by decide +kernel, rfl, by decide +kernel, by decide +kernel⟩
abbrev s_times : Stmt := topS 31
abbrev N_times : List Str := ["one", "other"]
theorem sc_times : FnScope N_times ["one", "other"] (defScope s_times) := ⟨rfl, rfl, rfl, by decide +kernel, rfl, by decide +kernel, by decide +kernel⟩
abbrev s_over : Stmt := topS 32
abbrev N_over : List Str := ["one", "other"]
theorem sc_over : FnScope N_over ["one", "other"] (defScope s_over) := ⟨rfl, rfl, rfl, by decide +kernel, rfl, by decide +kernel, by decide +kernel⟩
abbrev s_compare : Stmt := topS 33
abbrev N_compare : List Str := ["one", "other"]
theorem sc_compare : FnScope N_compare ["one", "other"] (defScope s_compare) := ⟨rfl, rfl, rfl, by decide +kernel, rfl, by decide +kernel, by decide +kernel⟩
abbrev s_root_of : Stmt := topS 34
abbrev N_root_of : List Str := ["ratio"]
theorem sc_root_of : FnScope N_root_of ["ratio"] (defScope s_root_of) := ⟨rfl, rfl, rfl, by decide +kernel, rfl, by decide +kernel, by decide +kernel⟩
abbrev s_ratio_text : Stmt := topS 35
abbrev N_ratio_text : List Str := ["ratio"]
theorem sc_ratio_text : FnScope N_ratio_text ["ratio"] (defScope s_ratio_text) := ⟨rfl, rfl, rfl, by decide +kernel, rfl, by decide +kernel, by decide +kernel⟩
abbrev s_law_dice : Stmt := topS 37
abbrev N_law_dice : List Str := ["_law_script", "_law_spot", "_law_cell", "_law_left"]
theorem sc_law_dice : FnScope N_law_dice ["_law_script", "_law_spot"] (defScope s_law_dice) := ⟨rfl, rfl, rfl, by decide +kernel, rfl, by decide +kernel, by decide +kernel⟩
abbrev s_law_roll : Stmt := topS 38
abbrev N_law_roll : List Str := ["_law_dice_here", "_law_total", "_law_found", "_law_one", "_law_two"]
theorem sc_law_roll : FnScope N_law_roll ["_law_dice_here", "_law_total"] (defScope s_law_roll) := ⟨rfl, rfl, rfl, by decide +kernel, rfl, by decide +kernel, by decide +kernel⟩
abbrev s_law_pick : Stmt := topS 39
abbrev N_law_pick : List Str := ["_law_dice_here", "_law_items"]
theorem sc_law_pick : FnScope N_law_pick ["_law_dice_here", "_law_items"] (defScope s_law_pick) := ⟨rfl, rfl, rfl, by decide +kernel, rfl, by decide +kernel, by decide +kernel⟩
abbrev s_law_near : Stmt := topS 40
abbrev N_law_near : List Str := ["_law_dice_here", "_law_most"]
theorem sc_law_near : FnScope N_law_near ["_law_dice_here", "_law_most"] (defScope s_law_near) := ⟨rfl, rfl, rfl, by decide +kernel, rfl, by decide +kernel, by decide +kernel⟩
abbrev s_law_gcd : Stmt := topS 41
abbrev N_law_gcd : List Str := ["_law_one", "_law_other"]
theorem sc_law_gcd : FnScope N_law_gcd ["_law_one", "_law_other"] (defScope s_law_gcd) := ⟨rfl, rfl, rfl, by decide +kernel, rfl, by decide +kernel, by decide +kernel⟩
abbrev s_law_lowest : Stmt := topS 42
abbrev N_law_lowest : List Str := ["_law_top", "_law_bottom", "_law_part"]
theorem sc_law_lowest : FnScope N_law_lowest ["_law_top", "_law_bottom"] (defScope s_law_lowest) := ⟨rfl, rfl, rfl, by decide +kernel, rfl, by decide +kernel, by decide +kernel⟩
abbrev s_law_ratio_sum : Stmt := topS 43
abbrev N_law_ratio_sum : List Str := ["_law_one", "_law_other"]
theorem sc_law_ratio_sum : FnScope N_law_ratio_sum ["_law_one", "_law_other"] (defScope s_law_ratio_sum) := ⟨rfl, rfl, rfl, by decide +kernel, rfl, by decide +kernel, by decide +kernel⟩
abbrev s_law_ratio_product : Stmt := topS 44
abbrev N_law_ratio_product : List Str := ["_law_one", "_law_other"]
theorem sc_law_ratio_product : FnScope N_law_ratio_product ["_law_one", "_law_other"] (defScope s_law_ratio_product) := ⟨rfl, rfl, rfl, by decide +kernel, rfl, by decide +kernel, by decide +kernel⟩
abbrev s_law_some_ratio : Stmt := topS 45
abbrev N_law_some_ratio : List Str := ["_law_dice_here", "_law_most"]
theorem sc_law_some_ratio : FnScope N_law_some_ratio ["_law_dice_here", "_law_most"] (defScope s_law_some_ratio) := ⟨rfl, rfl, rfl, by decide +kernel, rfl, by decide +kernel, by decide +kernel⟩
abbrev s_law_int_root : Stmt := topS 46
abbrev N_law_int_root : List Str := ["_law_number", "_law_low", "_law_high", "_law_middle"]
theorem sc_law_int_root : FnScope N_law_int_root ["_law_number"] (defScope s_law_int_root) := ⟨rfl, rfl, rfl, by decide +kernel, rfl, by decide +kernel, by decide +kernel⟩
abbrev s_law_text_of : Stmt := topS 47
abbrev N_law_text_of : List Str := ["_law_ratio"]
theorem sc_law_text_of : FnScope N_law_text_of ["_law_ratio"] (defScope s_law_text_of) := ⟨rfl, rfl, rfl, by decide +kernel, rfl, by decide +kernel, by decide +kernel⟩
abbrev s_law_root_due : Stmt := topS 48
abbrev N_law_root_due : List Str := ["_law_ratio", "_law_top", "_law_bottom"]
theorem sc_law_root_due : FnScope N_law_root_due ["_law_ratio"] (defScope s_law_root_due) := ⟨rfl, rfl, rfl, by decide +kernel, rfl, by decide +kernel, by decide +kernel⟩
abbrev s_law_pair_right : Stmt := topS 49
abbrev N_law_pair_right : List Str := ["_law_dice_here", "_law_one", "_law_other", "_law_total", "_law_product", "_law_due", "_law_left", "_law_right_here", "_law_square", "_law_ratio"]
theorem sc_law_pair_right : FnScope N_law_pair_right ["_law_dice_here", "_law_one", "_law_other"] (defScope s_law_pair_right) := ⟨rfl, rfl, rfl, by decide +kernel, rfl, by decide +kernel, by decide +kernel⟩
abbrev s_law_right : Stmt := topS 50
abbrev N_law_right : List Str := ["_law_dice_here", "_law_most", "_law_one", "_law_other", "_law_top", "_law_bottom", "_law_part", "_law_odd", "_law_value"]
theorem sc_law_right : FnScope N_law_right ["_law_dice_here"] (defScope s_law_right) := ⟨rfl, rfl, rfl, by decide +kernel, rfl, by decide +kernel, by decide +kernel⟩
abbrev s_law : Stmt := topS 51
abbrev N_law : List Str := ["_law_script", "_law_spot", "_law_told", "_law_value"]
theorem sc_law : FnScope N_law ["_law_script"] (defScope s_law) := ⟨rfl, rfl, rfl, by decide +kernel, rfl, by decide +kernel, by decide +kernel⟩
/-- where the defs stand, what the names of the module are -/
structure Facts (K : PySem.W.Frag) (mg : Str → Option Value) where
  f_is_whole : Addr
  fd_is_whole : FuncData
  F_is_whole : FnP K "is_whole" s_is_whole f_is_whole fd_is_whole
  g_is_whole : mg "is_whole" = some (.ref f_is_whole)
  b_is_whole : Binds K fd_is_whole ["value"] []
  f_is_short : Addr
  fd_is_short : FuncData
  F_is_short : FnP K "is_short" s_is_short f_is_short fd_is_short
  g_is_short : mg "is_short" = some (.ref f_is_short)
  b_is_short : Binds K fd_is_short ["value"] []
  f_are_short : Addr
  fd_are_short : FuncData
  F_are_short : FnP K "are_short" s_are_short f_are_short fd_are_short
  g_are_short : mg "are_short" = some (.ref f_are_short)
  b_are_short : Binds K fd_are_short ["value"] []
  f_require_short : Addr
  fd_require_short : FuncData
  F_require_short : FnP K "require_short" s_require_short f_require_short fd_require_short
  g_require_short : mg "require_short" = some (.ref f_require_short)
  b_require_short : Binds K fd_require_short ["value"] []
  f_lowest_of : Addr
  fd_lowest_of : FuncData
  F_lowest_of : FnP K "lowest_of" s_lowest_of f_lowest_of fd_lowest_of
  g_lowest_of : mg "lowest_of" = some (.ref f_lowest_of)
  b_lowest_of : Binds K fd_lowest_of ["top", "bottom"] []
  f_plus_of : Addr
  fd_plus_of : FuncData
  F_plus_of : FnP K "plus_of" s_plus_of f_plus_of fd_plus_of
  g_plus_of : mg "plus_of" = some (.ref f_plus_of)
  b_plus_of : Binds K fd_plus_of ["one", "other"] []
  f_minus_of : Addr
  fd_minus_of : FuncData
  F_minus_of : FnP K "minus_of" s_minus_of f_minus_of fd_minus_of
  g_minus_of : mg "minus_of" = some (.ref f_minus_of)
  b_minus_of : Binds K fd_minus_of ["one", "other"] []
  f_times_of : Addr
  fd_times_of : FuncData
  F_times_of : FnP K "times_of" s_times_of f_times_of fd_times_of
  g_times_of : mg "times_of" = some (.ref f_times_of)
  b_times_of : Binds K fd_times_of ["one", "other"] []
  f_over_of : Addr
  fd_over_of : FuncData
  F_over_of : FnP K "over_of" s_over_of f_over_of fd_over_of
  g_over_of : mg "over_of" = some (.ref f_over_of)
  b_over_of : Binds K fd_over_of ["one", "other"] []
  f_compared_of : Addr
  fd_compared_of : FuncData
  F_compared_of : FnP K "compared_of" s_compared_of f_compared_of fd_compared_of
  g_compared_of : mg "compared_of" = some (.ref f_compared_of)
  b_compared_of : Binds K fd_compared_of ["one", "other"] []
  f_whole_root : Addr
  fd_whole_root : FuncData
  F_whole_root : FnP K "whole_root" s_whole_root f_whole_root fd_whole_root
  g_whole_root : mg "whole_root" = some (.ref f_whole_root)
  b_whole_root : Binds K fd_whole_root ["number"] []
  f_root_in : Addr
  fd_root_in : FuncData
  F_root_in : FnP K "root_in" s_root_in f_root_in fd_root_in
  g_root_in : mg "root_in" = some (.ref f_root_in)
  b_root_in : Binds K fd_root_in ["ratio"] []
  f_text_of_ratio : Addr
  fd_text_of_ratio : FuncData
  F_text_of_ratio : FnP K "text_of_ratio" s_text_of_ratio f_text_of_ratio fd_text_of_ratio
  g_text_of_ratio : mg "text_of_ratio" = some (.ref f_text_of_ratio)
  b_text_of_ratio : Binds K fd_text_of_ratio ["ratio"] []
  f_is_pair_of_ratio : Addr
  fd_is_pair_of_ratio : FuncData
  F_is_pair_of_ratio : FnP K "is_pair_of_ratio" s_is_pair_of_ratio f_is_pair_of_ratio fd_is_pair_of_ratio
  g_is_pair_of_ratio : mg "is_pair_of_ratio" = some (.ref f_is_pair_of_ratio)
  b_is_pair_of_ratio : Binds K fd_is_pair_of_ratio ["value"] []
  f_is_ratio_in : Addr
  fd_is_ratio_in : FuncData
  F_is_ratio_in : FnP K "is_ratio_in" s_is_ratio_in f_is_ratio_in fd_is_ratio_in
  g_is_ratio_in : mg "is_ratio_in" = some (.ref f_is_ratio_in)
  b_is_ratio_in : Binds K fd_is_ratio_in ["value"] []
  f_require_ratio : Addr
  fd_require_ratio : FuncData
  F_require_ratio : FnP K "require_ratio" s_require_ratio f_require_ratio fd_require_ratio
  g_require_ratio : mg "require_ratio" = some (.ref f_require_ratio)
  b_require_ratio : Binds K fd_require_ratio ["value"] []
  f_require_two : Addr
  fd_require_two : FuncData
  F_require_two : FnP K "require_two" s_require_two f_require_two fd_require_two
  g_require_two : mg "require_two" = some (.ref f_require_two)
  b_require_two : Binds K fd_require_two ["one", "other"] []
  f_is_integer : Addr
  fd_is_integer : FuncData
  F_is_integer : FnP K "is_integer" s_is_integer f_is_integer fd_is_integer
  g_is_integer : mg "is_integer" = some (.ref f_is_integer)
  b_is_integer : Binds K fd_is_integer ["value"] []
  f_is_ratio : Addr
  fd_is_ratio : FuncData
  F_is_ratio : FnP K "is_ratio" s_is_ratio f_is_ratio fd_is_ratio
  g_is_ratio : mg "is_ratio" = some (.ref f_is_ratio)
  b_is_ratio : Binds K fd_is_ratio ["value"] []
  f_lowest : Addr
  fd_lowest : FuncData
  F_lowest : FnP K "lowest" s_lowest f_lowest fd_lowest
  g_lowest : mg "lowest" = some (.ref f_lowest)
  b_lowest : Binds K fd_lowest ["top", "bottom"] []
  f_plus : Addr
  fd_plus : FuncData
  F_plus : FnP K "plus" s_plus f_plus fd_plus
  g_plus : mg "plus" = some (.ref f_plus)
  b_plus : Binds K fd_plus ["one", "other"] []
  f_minus : Addr
  fd_minus : FuncData
  F_minus : FnP K "minus" s_minus f_minus fd_minus
  g_minus : mg "minus" = some (.ref f_minus)
  b_minus : Binds K fd_minus ["one", "other"] []
  f_times : Addr
  fd_times : FuncData
  F_times : FnP K "times" s_times f_times fd_times
  g_times : mg "times" = some (.ref f_times)
  b_times : Binds K fd_times ["one", "other"] []
  f_over : Addr
  fd_over : FuncData
  F_over : FnP K "over" s_over f_over fd_over
  g_over : mg "over" = some (.ref f_over)
  b_over : Binds K fd_over ["one", "other"] []
  f_compare : Addr
  fd_compare : FuncData
  F_compare : FnP K "compare" s_compare f_compare fd_compare
  g_compare : mg "compare" = some (.ref f_compare)
  b_compare : Binds K fd_compare ["one", "other"] []
  f_root_of : Addr
  fd_root_of : FuncData
  F_root_of : FnP K "root_of" s_root_of f_root_of fd_root_of
  g_root_of : mg "root_of" = some (.ref f_root_of)
  b_root_of : Binds K fd_root_of ["ratio"] []
  f_ratio_text : Addr
  fd_ratio_text : FuncData
  F_ratio_text : FnP K "ratio_text" s_ratio_text f_ratio_text fd_ratio_text
  g_ratio_text : mg "ratio_text" = some (.ref f_ratio_text)
  b_ratio_text : Binds K fd_ratio_text ["ratio"] []
  f_law_dice : Addr
  fd_law_dice : FuncData
  F_law_dice : FnP K "_law_dice" s_law_dice f_law_dice fd_law_dice
  g_law_dice : mg "_law_dice" = some (.ref f_law_dice)
  b_law_dice : Binds K fd_law_dice ["_law_script", "_law_spot"] []
  f_law_roll : Addr
  fd_law_roll : FuncData
  F_law_roll : FnP K "_law_roll" s_law_roll f_law_roll fd_law_roll
  g_law_roll : mg "_law_roll" = some (.ref f_law_roll)
  b_law_roll : Binds K fd_law_roll ["_law_dice_here", "_law_total"] []
  f_law_pick : Addr
  fd_law_pick : FuncData
  F_law_pick : FnP K "_law_pick" s_law_pick f_law_pick fd_law_pick
  g_law_pick : mg "_law_pick" = some (.ref f_law_pick)
  b_law_pick : Binds K fd_law_pick ["_law_dice_here", "_law_items"] []
  f_law_near : Addr
  fd_law_near : FuncData
  F_law_near : FnP K "_law_near" s_law_near f_law_near fd_law_near
  g_law_near : mg "_law_near" = some (.ref f_law_near)
  b_law_near : Binds K fd_law_near ["_law_dice_here", "_law_most"] []
  f_law_gcd : Addr
  fd_law_gcd : FuncData
  F_law_gcd : FnP K "_law_gcd" s_law_gcd f_law_gcd fd_law_gcd
  g_law_gcd : mg "_law_gcd" = some (.ref f_law_gcd)
  b_law_gcd : Binds K fd_law_gcd ["_law_one", "_law_other"] []
  f_law_lowest : Addr
  fd_law_lowest : FuncData
  F_law_lowest : FnP K "_law_lowest" s_law_lowest f_law_lowest fd_law_lowest
  g_law_lowest : mg "_law_lowest" = some (.ref f_law_lowest)
  b_law_lowest : Binds K fd_law_lowest ["_law_top", "_law_bottom"] []
  f_law_ratio_sum : Addr
  fd_law_ratio_sum : FuncData
  F_law_ratio_sum : FnP K "_law_ratio_sum" s_law_ratio_sum f_law_ratio_sum fd_law_ratio_sum
  g_law_ratio_sum : mg "_law_ratio_sum" = some (.ref f_law_ratio_sum)
  b_law_ratio_sum : Binds K fd_law_ratio_sum ["_law_one", "_law_other"] []
  f_law_ratio_product : Addr
  fd_law_ratio_product : FuncData
  F_law_ratio_product : FnP K "_law_ratio_product" s_law_ratio_product f_law_ratio_product fd_law_ratio_product
  g_law_ratio_product : mg "_law_ratio_product" = some (.ref f_law_ratio_product)
  b_law_ratio_product : Binds K fd_law_ratio_product ["_law_one", "_law_other"] []
  f_law_some_ratio : Addr
  fd_law_some_ratio : FuncData
  F_law_some_ratio : FnP K "_law_some_ratio" s_law_some_ratio f_law_some_ratio fd_law_some_ratio
  g_law_some_ratio : mg "_law_some_ratio" = some (.ref f_law_some_ratio)
  b_law_some_ratio : Binds K fd_law_some_ratio ["_law_dice_here", "_law_most"] []
  f_law_int_root : Addr
  fd_law_int_root : FuncData
  F_law_int_root : FnP K "_law_int_root" s_law_int_root f_law_int_root fd_law_int_root
  g_law_int_root : mg "_law_int_root" = some (.ref f_law_int_root)
  b_law_int_root : Binds K fd_law_int_root ["_law_number"] []
  f_law_text_of : Addr
  fd_law_text_of : FuncData
  F_law_text_of : FnP K "_law_text_of" s_law_text_of f_law_text_of fd_law_text_of
  g_law_text_of : mg "_law_text_of" = some (.ref f_law_text_of)
  b_law_text_of : Binds K fd_law_text_of ["_law_ratio"] []
  f_law_root_due : Addr
  fd_law_root_due : FuncData
  F_law_root_due : FnP K "_law_root_due" s_law_root_due f_law_root_due fd_law_root_due
  g_law_root_due : mg "_law_root_due" = some (.ref f_law_root_due)
  b_law_root_due : Binds K fd_law_root_due ["_law_ratio"] []
  f_law_pair_right : Addr
  fd_law_pair_right : FuncData
  F_law_pair_right : FnP K "_law_pair_right" s_law_pair_right f_law_pair_right fd_law_pair_right
  g_law_pair_right : mg "_law_pair_right" = some (.ref f_law_pair_right)
  b_law_pair_right : Binds K fd_law_pair_right ["_law_dice_here", "_law_one", "_law_other"] []
  f_law_right : Addr
  fd_law_right : FuncData
  F_law_right : FnP K "_law_right" s_law_right f_law_right fd_law_right
  g_law_right : mg "_law_right" = some (.ref f_law_right)
  b_law_right : Binds K fd_law_right ["_law_dice_here"] []
  f_law : Addr
  fd_law : FuncData
  F_law : FnP K "law" s_law f_law fd_law
  g_law : mg "law" = some (.ref f_law)
  b_law : Binds K fd_law ["_law_script"] []
  z_abs : mg "abs" = none
  z_all : mg "all" = none
  z_bool : mg "bool" = none
  z_int : mg "int" = none
  z_isinstance : mg "isinstance" = none
  z_len : mg "len" = none
  z_max : mg "max" = none
  z_min : mg "min" = none
  z_range : mg "range" = none
  z_str : mg "str" = none
  z_tuple : mg "tuple" = none
  m_gcd : mg "gcd" = some (.builtin "math.gcd")
  m_isqrt : mg "isqrt" = some (.builtin "math.isqrt")
  c_GREATEST : ∃ t, mg "GREATEST" = some (.int 1000000000000000000000000000000000000000000000000000000000000 t)
/-! ### for the head -/
def d_is_whole : He.DefD := ⟨("is_whole", none), "is_whole", "is_whole", defArgs s_is_whole, defBody s_is_whole, defScope s_is_whole, [], []⟩
def d_is_short : He.DefD := ⟨("is_short", none), "is_short", "is_short", defArgs s_is_short, defBody s_is_short, defScope s_is_short, [], []⟩
def d_are_short : He.DefD := ⟨("are_short", none), "are_short", "are_short", defArgs s_are_short, defBody s_are_short, defScope s_are_short, [], []⟩
def d_require_short : He.DefD := ⟨("require_short", none), "require_short", "require_short", defArgs s_require_short, defBody s_require_short, defScope s_require_short, [], []⟩
def d_lowest_of : He.DefD := ⟨("lowest_of", none), "lowest_of", "lowest_of", defArgs s_lowest_of, defBody s_lowest_of, defScope s_lowest_of, [], []⟩
def d_plus_of : He.DefD := ⟨("plus_of", none), "plus_of", "plus_of", defArgs s_plus_of, defBody s_plus_of, defScope s_plus_of, [], []⟩
def d_minus_of : He.DefD := ⟨("minus_of", none), "minus_of", "minus_of", defArgs s_minus_of, defBody s_minus_of, defScope s_minus_of, [], []⟩
def d_times_of : He.DefD := ⟨("times_of", none), "times_of", "times_of", defArgs s_times_of, defBody s_times_of, defScope s_times_of, [], []⟩
def d_over_of : He.DefD := ⟨("over_of", none), "over_of", "over_of", defArgs s_over_of, defBody s_over_of, defScope s_over_of, [], []⟩
def d_compared_of : He.DefD := ⟨("compared_of", none), "compared_of", "compared_of", defArgs s_compared_of, defBody s_compared_of, defScope s_compared_of, [], []⟩
def d_whole_root : He.DefD := ⟨("whole_root", none), "whole_root", "whole_root", defArgs s_whole_root, defBody s_whole_root, defScope s_whole_root, [], []⟩
def d_root_in : He.DefD := ⟨("root_in", none), "root_in", "root_in", defArgs s_root_in, defBody s_root_in, defScope s_root_in, [], []⟩
def d_text_of_ratio : He.DefD := ⟨("text_of_ratio", none), "text_of_ratio", "text_of_ratio", defArgs s_text_of_ratio, defBody s_text_of_ratio, defScope s_text_of_ratio, [], []⟩
def d_is_pair_of_ratio : He.DefD := ⟨("is_pair_of_ratio", none), "is_pair_of_ratio", "is_pair_of_ratio", defArgs s_is_pair_of_ratio, defBody s_is_pair_of_ratio, defScope s_is_pair_of_ratio, [], []⟩
def d_is_ratio_in : He.DefD := ⟨("is_ratio_in", none), "is_ratio_in", "is_ratio_in", defArgs s_is_ratio_in, defBody s_is_ratio_in, defScope s_is_ratio_in, [], []⟩
def d_require_ratio : He.DefD := ⟨("require_ratio", none), "require_ratio", "require_ratio", defArgs s_require_ratio, defBody s_require_ratio, defScope s_require_ratio, [], []⟩
def d_require_two : He.DefD := ⟨("require_two", none), "require_two", "require_two", defArgs s_require_two, defBody s_require_two, defScope s_require_two, [], []⟩
def d_is_integer : He.DefD := ⟨("is_integer", none), "is_integer", "is_integer", defArgs s_is_integer, defBody s_is_integer, defScope s_is_integer, [], []⟩
def d_is_ratio : He.DefD := ⟨("is_ratio", none), "is_ratio", "is_ratio", defArgs s_is_ratio, defBody s_is_ratio, defScope s_is_ratio, [], []⟩
def d_lowest : He.DefD := ⟨("lowest", none), "lowest", "lowest", defArgs s_lowest, defBody s_lowest, defScope s_lowest, [], []⟩
def d_plus : He.DefD := ⟨("plus", none), "plus", "plus", defArgs s_plus, defBody s_plus, defScope s_plus, [], []⟩
def d_minus : He.DefD := ⟨("minus", none), "minus", "minus", defArgs s_minus, defBody s_minus, defScope s_minus, [], []⟩
def d_times : He.DefD := ⟨("times", none), "times", "times", defArgs s_times, defBody s_times, defScope s_times, [], []⟩
def d_over : He.DefD := ⟨("over", none), "over", "over", defArgs s_over, defBody s_over, defScope s_over, [], []⟩
def d_compare : He.DefD := ⟨("compare", none), "compare", "compare", defArgs s_compare, defBody s_compare, defScope s_compare, [], []⟩
def d_root_of : He.DefD := ⟨("root_of", none), "root_of", "root_of", defArgs s_root_of, defBody s_root_of, defScope s_root_of, [], []⟩
def d_ratio_text : He.DefD := ⟨("ratio_text", none), "ratio_text", "ratio_text", defArgs s_ratio_text, defBody s_ratio_text, defScope s_ratio_text, [], []⟩
def d_law_dice : He.DefD := ⟨("_law_dice", none), "_law_dice", "_law_dice", defArgs s_law_dice, defBody s_law_dice, defScope s_law_dice, [], []⟩
def d_law_roll : He.DefD := ⟨("_law_roll", none), "_law_roll", "_law_roll", defArgs s_law_roll, defBody s_law_roll, defScope s_law_roll, [], []⟩
def d_law_pick : He.DefD := ⟨("_law_pick", none), "_law_pick", "_law_pick", defArgs s_law_pick, defBody s_law_pick, defScope s_law_pick, [], []⟩
def d_law_near : He.DefD := ⟨("_law_near", none), "_law_near", "_law_near", defArgs s_law_near, defBody s_law_near, defScope s_law_near, [], []⟩
def d_law_gcd : He.DefD := ⟨("_law_gcd", none), "_law_gcd", "_law_gcd", defArgs s_law_gcd, defBody s_law_gcd, defScope s_law_gcd, [], []⟩
def d_law_lowest : He.DefD := ⟨("_law_lowest", none), "_law_lowest", "_law_lowest", defArgs s_law_lowest, defBody s_law_lowest, defScope s_law_lowest, [], []⟩
def d_law_ratio_sum : He.DefD := ⟨("_law_ratio_sum", none), "_law_ratio_sum", "_law_ratio_sum", defArgs s_law_ratio_sum, defBody s_law_ratio_sum, defScope s_law_ratio_sum, [], []⟩
def d_law_ratio_product : He.DefD := ⟨("_law_ratio_product", none), "_law_ratio_product", "_law_ratio_product", defArgs s_law_ratio_product, defBody s_law_ratio_product, defScope s_law_ratio_product, [], []⟩
def d_law_some_ratio : He.DefD := ⟨("_law_some_ratio", none), "_law_some_ratio", "_law_some_ratio", defArgs s_law_some_ratio, defBody s_law_some_ratio, defScope s_law_some_ratio, [], []⟩
def d_law_int_root : He.DefD := ⟨("_law_int_root", none), "_law_int_root", "_law_int_root", defArgs s_law_int_root, defBody s_law_int_root, defScope s_law_int_root, [], []⟩
def d_law_text_of : He.DefD := ⟨("_law_text_of", none), "_law_text_of", "_law_text_of", defArgs s_law_text_of, defBody s_law_text_of, defScope s_law_text_of, [], []⟩
def d_law_root_due : He.DefD := ⟨("_law_root_due", none), "_law_root_due", "_law_root_due", defArgs s_law_root_due, defBody s_law_root_due, defScope s_law_root_due, [], []⟩
def d_law_pair_right : He.DefD := ⟨("_law_pair_right", none), "_law_pair_right", "_law_pair_right", defArgs s_law_pair_right, defBody s_law_pair_right, defScope s_law_pair_right, [], []⟩
def d_law_right : He.DefD := ⟨("_law_right", none), "_law_right", "_law_right", defArgs s_law_right, defBody s_law_right, defScope s_law_right, [], []⟩
def d_law : He.DefD := ⟨("law", none), "law", "law", defArgs s_law, defBody s_law, defScope s_law, [], []⟩
def fnL : List He.DefD := [d_is_whole, d_is_short, d_are_short, d_require_short, d_lowest_of, d_plus_of, d_minus_of, d_times_of, d_over_of, d_compared_of, d_whole_root, d_root_in, d_text_of_ratio, d_is_pair_of_ratio, d_is_ratio_in, d_require_ratio, d_require_two, d_is_integer, d_is_ratio, d_lowest, d_plus, d_minus, d_times, d_over, d_compare, d_root_of, d_ratio_text, d_law_dice, d_law_roll, d_law_pick, d_law_near, d_law_gcd, d_law_lowest, d_law_ratio_sum, d_law_ratio_product, d_law_some_ratio, d_law_int_root, d_law_text_of, d_law_root_due, d_law_pair_right, d_law_right, d_law]
def faL : List He.Fa := [.glo "is_whole", .glo "is_short", .glo "are_short", .glo "require_short", .glo "lowest_of", .glo "plus_of", .glo "minus_of", .glo "times_of", .glo "over_of", .glo "compared_of", .glo "whole_root", .glo "root_in", .glo "text_of_ratio", .glo "is_pair_of_ratio", .glo "is_ratio_in", .glo "require_ratio", .glo "require_two", .glo "is_integer", .glo "is_ratio", .glo "lowest", .glo "plus", .glo "minus", .glo "times", .glo "over", .glo "compare", .glo "root_of", .glo "ratio_text", .glo "_law_dice", .glo "_law_roll", .glo "_law_pick", .glo "_law_near", .glo "_law_gcd", .glo "_law_lowest", .glo "_law_ratio_sum", .glo "_law_ratio_product", .glo "_law_some_ratio", .glo "_law_int_root", .glo "_law_text_of", .glo "_law_root_due", .glo "_law_pair_right", .glo "_law_right", .glo "law", .free "abs", .free "all", .free "bool", .free "int", .free "isinstance", .free "len", .free "max", .free "min", .free "range", .free "str", .free "tuple", .int "GREATEST" 1000000000000000000000000000000000000000000000000000000000000]
def exL (K : PySem.W.Frag) : Bool := He.eqO (PySem.W.nsIn K mainGlobals "gcd") (some (some (.builtin "math.gcd"))) && He.eqO (PySem.W.nsIn K mainGlobals "isqrt") (some (some (.builtin "math.isqrt")))
theorem facts_of {K : PySem.W.Frag} {h : Heap} {mg : Str → Option Value} (X : K.In h) (G : h.Ns mainGlobals mg) (c : He.SaysD faL fnL K) (ex : exL K = true) : Nonempty (Facts K mg) := by
  unfold exL at ex
  simp only [Bool.and_eq_true] at ex
  obtain ⟨ex_0, ex_1⟩ := ex
  obtain ⟨fd_is_whole, F_is_whole⟩ := c.def_ 0 (d := d_is_whole) rfl
  obtain ⟨fd_is_short, F_is_short⟩ := c.def_ 1 (d := d_is_short) rfl
  obtain ⟨fd_are_short, F_are_short⟩ := c.def_ 2 (d := d_are_short) rfl
  obtain ⟨fd_require_short, F_require_short⟩ := c.def_ 3 (d := d_require_short) rfl
  obtain ⟨fd_lowest_of, F_lowest_of⟩ := c.def_ 4 (d := d_lowest_of) rfl
  obtain ⟨fd_plus_of, F_plus_of⟩ := c.def_ 5 (d := d_plus_of) rfl
  obtain ⟨fd_minus_of, F_minus_of⟩ := c.def_ 6 (d := d_minus_of) rfl
  obtain ⟨fd_times_of, F_times_of⟩ := c.def_ 7 (d := d_times_of) rfl
  obtain ⟨fd_over_of, F_over_of⟩ := c.def_ 8 (d := d_over_of) rfl
  obtain ⟨fd_compared_of, F_compared_of⟩ := c.def_ 9 (d := d_compared_of) rfl
  obtain ⟨fd_whole_root, F_whole_root⟩ := c.def_ 10 (d := d_whole_root) rfl
  obtain ⟨fd_root_in, F_root_in⟩ := c.def_ 11 (d := d_root_in) rfl
  obtain ⟨fd_text_of_ratio, F_text_of_ratio⟩ := c.def_ 12 (d := d_text_of_ratio) rfl
  obtain ⟨fd_is_pair_of_ratio, F_is_pair_of_ratio⟩ := c.def_ 13 (d := d_is_pair_of_ratio) rfl
  obtain ⟨fd_is_ratio_in, F_is_ratio_in⟩ := c.def_ 14 (d := d_is_ratio_in) rfl
  obtain ⟨fd_require_ratio, F_require_ratio⟩ := c.def_ 15 (d := d_require_ratio) rfl
  obtain ⟨fd_require_two, F_require_two⟩ := c.def_ 16 (d := d_require_two) rfl
  obtain ⟨fd_is_integer, F_is_integer⟩ := c.def_ 17 (d := d_is_integer) rfl
  obtain ⟨fd_is_ratio, F_is_ratio⟩ := c.def_ 18 (d := d_is_ratio) rfl
  obtain ⟨fd_lowest, F_lowest⟩ := c.def_ 19 (d := d_lowest) rfl
  obtain ⟨fd_plus, F_plus⟩ := c.def_ 20 (d := d_plus) rfl
  obtain ⟨fd_minus, F_minus⟩ := c.def_ 21 (d := d_minus) rfl
  obtain ⟨fd_times, F_times⟩ := c.def_ 22 (d := d_times) rfl
  obtain ⟨fd_over, F_over⟩ := c.def_ 23 (d := d_over) rfl
  obtain ⟨fd_compare, F_compare⟩ := c.def_ 24 (d := d_compare) rfl
  obtain ⟨fd_root_of, F_root_of⟩ := c.def_ 25 (d := d_root_of) rfl
  obtain ⟨fd_ratio_text, F_ratio_text⟩ := c.def_ 26 (d := d_ratio_text) rfl
  obtain ⟨fd_law_dice, F_law_dice⟩ := c.def_ 27 (d := d_law_dice) rfl
  obtain ⟨fd_law_roll, F_law_roll⟩ := c.def_ 28 (d := d_law_roll) rfl
  obtain ⟨fd_law_pick, F_law_pick⟩ := c.def_ 29 (d := d_law_pick) rfl
  obtain ⟨fd_law_near, F_law_near⟩ := c.def_ 30 (d := d_law_near) rfl
  obtain ⟨fd_law_gcd, F_law_gcd⟩ := c.def_ 31 (d := d_law_gcd) rfl
  obtain ⟨fd_law_lowest, F_law_lowest⟩ := c.def_ 32 (d := d_law_lowest) rfl
  obtain ⟨fd_law_ratio_sum, F_law_ratio_sum⟩ := c.def_ 33 (d := d_law_ratio_sum) rfl
  obtain ⟨fd_law_ratio_product, F_law_ratio_product⟩ := c.def_ 34 (d := d_law_ratio_product) rfl
  obtain ⟨fd_law_some_ratio, F_law_some_ratio⟩ := c.def_ 35 (d := d_law_some_ratio) rfl
  obtain ⟨fd_law_int_root, F_law_int_root⟩ := c.def_ 36 (d := d_law_int_root) rfl
  obtain ⟨fd_law_text_of, F_law_text_of⟩ := c.def_ 37 (d := d_law_text_of) rfl
  obtain ⟨fd_law_root_due, F_law_root_due⟩ := c.def_ 38 (d := d_law_root_due) rfl
  obtain ⟨fd_law_pair_right, F_law_pair_right⟩ := c.def_ 39 (d := d_law_pair_right) rfl
  obtain ⟨fd_law_right, F_law_right⟩ := c.def_ 40 (d := d_law_right) rfl
  obtain ⟨fd_law, F_law⟩ := c.def_ 41 (d := d_law) rfl
  exact ⟨{ f_is_whole := _, fd_is_whole := _, F_is_whole := F_is_whole, g_is_whole := He.glo_ok X G (c.fact 0 (f := .glo "is_whole") rfl), b_is_whole := (F_is_whole.bindsN fun _ _ _ _ _ _ us hl => match us, hl with | [_], _ => rfl), f_is_short := _, fd_is_short := _, F_is_short := F_is_short, g_is_short := He.glo_ok X G (c.fact 1 (f := .glo "is_short") rfl), b_is_short := (F_is_short.bindsN fun _ _ _ _ _ _ us hl => match us, hl with | [_], _ => rfl), f_are_short := _, fd_are_short := _, F_are_short := F_are_short, g_are_short := He.glo_ok X G (c.fact 2 (f := .glo "are_short") rfl), b_are_short := (F_are_short.bindsN fun _ _ _ _ _ _ us hl => match us, hl with | [_], _ => rfl), f_require_short := _, fd_require_short := _, F_require_short := F_require_short, g_require_short := He.glo_ok X G (c.fact 3 (f := .glo "require_short") rfl), b_require_short := (F_require_short.bindsN fun _ _ _ _ _ _ us hl => match us, hl with | [_], _ => rfl), f_lowest_of := _, fd_lowest_of := _, F_lowest_of := F_lowest_of, g_lowest_of := He.glo_ok X G (c.fact 4 (f := .glo "lowest_of") rfl), b_lowest_of := (F_lowest_of.bindsN fun _ _ _ _ _ _ us hl => match us, hl with | [_, _], _ => rfl), f_plus_of := _, fd_plus_of := _, F_plus_of := F_plus_of, g_plus_of := He.glo_ok X G (c.fact 5 (f := .glo "plus_of") rfl), b_plus_of := (F_plus_of.bindsN fun _ _ _ _ _ _ us hl => match us, hl with | [_, _], _ => rfl), f_minus_of := _, fd_minus_of := _, F_minus_of := F_minus_of, g_minus_of := He.glo_ok X G (c.fact 6 (f := .glo "minus_of") rfl), b_minus_of := (F_minus_of.bindsN fun _ _ _ _ _ _ us hl => match us, hl with | [_, _], _ => rfl), f_times_of := _, fd_times_of := _, F_times_of := F_times_of, g_times_of := He.glo_ok X G (c.fact 7 (f := .glo "times_of") rfl), b_times_of := (F_times_of.bindsN fun _ _ _ _ _ _ us hl => match us, hl with | [_, _], _ => rfl), f_over_of := _, fd_over_of := _, F_over_of := F_over_of, g_over_of := He.glo_ok X G (c.fact 8 (f := .glo "over_of") rfl), b_over_of := (F_over_of.bindsN fun _ _ _ _ _ _ us hl => match us, hl with | [_, _], _ => rfl), f_compared_of := _, fd_compared_of := _, F_compared_of := F_compared_of, g_compared_of := He.glo_ok X G (c.fact 9 (f := .glo "compared_of") rfl), b_compared_of := (F_compared_of.bindsN fun _ _ _ _ _ _ us hl => match us, hl with | [_, _], _ => rfl), f_whole_root := _, fd_whole_root := _, F_whole_root := F_whole_root, g_whole_root := He.glo_ok X G (c.fact 10 (f := .glo "whole_root") rfl), b_whole_root := (F_whole_root.bindsN fun _ _ _ _ _ _ us hl => match us, hl with | [_], _ => rfl), f_root_in := _, fd_root_in := _, F_root_in := F_root_in, g_root_in := He.glo_ok X G (c.fact 11 (f := .glo "root_in") rfl), b_root_in := (F_root_in.bindsN fun _ _ _ _ _ _ us hl => match us, hl with | [_], _ => rfl), f_text_of_ratio := _, fd_text_of_ratio := _, F_text_of_ratio := F_text_of_ratio, g_text_of_ratio := He.glo_ok X G (c.fact 12 (f := .glo "text_of_ratio") rfl), b_text_of_ratio := (F_text_of_ratio.bindsN fun _ _ _ _ _ _ us hl => match us, hl with | [_], _ => rfl), f_is_pair_of_ratio := _, fd_is_pair_of_ratio := _, F_is_pair_of_ratio := F_is_pair_of_ratio, g_is_pair_of_ratio := He.glo_ok X G (c.fact 13 (f := .glo "is_pair_of_ratio") rfl), b_is_pair_of_ratio := (F_is_pair_of_ratio.bindsN fun _ _ _ _ _ _ us hl => match us, hl with | [_], _ => rfl), f_is_ratio_in := _, fd_is_ratio_in := _, F_is_ratio_in := F_is_ratio_in, g_is_ratio_in := He.glo_ok X G (c.fact 14 (f := .glo "is_ratio_in") rfl), b_is_ratio_in := (F_is_ratio_in.bindsN fun _ _ _ _ _ _ us hl => match us, hl with | [_], _ => rfl), f_require_ratio := _, fd_require_ratio := _, F_require_ratio := F_require_ratio, g_require_ratio := He.glo_ok X G (c.fact 15 (f := .glo "require_ratio") rfl), b_require_ratio := (F_require_ratio.bindsN fun _ _ _ _ _ _ us hl => match us, hl with | [_], _ => rfl), f_require_two := _, fd_require_two := _, F_require_two := F_require_two, g_require_two := He.glo_ok X G (c.fact 16 (f := .glo "require_two") rfl), b_require_two := (F_require_two.bindsN fun _ _ _ _ _ _ us hl => match us, hl with | [_, _], _ => rfl), f_is_integer := _, fd_is_integer := _, F_is_integer := F_is_integer, g_is_integer := He.glo_ok X G (c.fact 17 (f := .glo "is_integer") rfl), b_is_integer := (F_is_integer.bindsN fun _ _ _ _ _ _ us hl => match us, hl with | [_], _ => rfl), f_is_ratio := _, fd_is_ratio := _, F_is_ratio := F_is_ratio, g_is_ratio := He.glo_ok X G (c.fact 18 (f := .glo "is_ratio") rfl), b_is_ratio := (F_is_ratio.bindsN fun _ _ _ _ _ _ us hl => match us, hl with | [_], _ => rfl), f_lowest := _, fd_lowest := _, F_lowest := F_lowest, g_lowest := He.glo_ok X G (c.fact 19 (f := .glo "lowest") rfl), b_lowest := (F_lowest.bindsN fun _ _ _ _ _ _ us hl => match us, hl with | [_, _], _ => rfl), f_plus := _, fd_plus := _, F_plus := F_plus, g_plus := He.glo_ok X G (c.fact 20 (f := .glo "plus") rfl), b_plus := (F_plus.bindsN fun _ _ _ _ _ _ us hl => match us, hl with | [_, _], _ => rfl), f_minus := _, fd_minus := _, F_minus := F_minus, g_minus := He.glo_ok X G (c.fact 21 (f := .glo "minus") rfl), b_minus := (F_minus.bindsN fun _ _ _ _ _ _ us hl => match us, hl with | [_, _], _ => rfl), f_times := _, fd_times := _, F_times := F_times, g_times := He.glo_ok X G (c.fact 22 (f := .glo "times") rfl), b_times := (F_times.bindsN fun _ _ _ _ _ _ us hl => match us, hl with | [_, _], _ => rfl), f_over := _, fd_over := _, F_over := F_over, g_over := He.glo_ok X G (c.fact 23 (f := .glo "over") rfl), b_over := (F_over.bindsN fun _ _ _ _ _ _ us hl => match us, hl with | [_, _], _ => rfl), f_compare := _, fd_compare := _, F_compare := F_compare, g_compare := He.glo_ok X G (c.fact 24 (f := .glo "compare") rfl), b_compare := (F_compare.bindsN fun _ _ _ _ _ _ us hl => match us, hl with | [_, _], _ => rfl), f_root_of := _, fd_root_of := _, F_root_of := F_root_of, g_root_of := He.glo_ok X G (c.fact 25 (f := .glo "root_of") rfl), b_root_of := (F_root_of.bindsN fun _ _ _ _ _ _ us hl => match us, hl with | [_], _ => rfl), f_ratio_text := _, fd_ratio_text := _, F_ratio_text := F_ratio_text, g_ratio_text := He.glo_ok X G (c.fact 26 (f := .glo "ratio_text") rfl), b_ratio_text := (F_ratio_text.bindsN fun _ _ _ _ _ _ us hl => match us, hl with | [_], _ => rfl), f_law_dice := _, fd_law_dice := _, F_law_dice := F_law_dice, g_law_dice := He.glo_ok X G (c.fact 27 (f := .glo "_law_dice") rfl), b_law_dice := (F_law_dice.bindsN fun _ _ _ _ _ _ us hl => match us, hl with | [_, _], _ => rfl), f_law_roll := _, fd_law_roll := _, F_law_roll := F_law_roll, g_law_roll := He.glo_ok X G (c.fact 28 (f := .glo "_law_roll") rfl), b_law_roll := (F_law_roll.bindsN fun _ _ _ _ _ _ us hl => match us, hl with | [_, _], _ => rfl), f_law_pick := _, fd_law_pick := _, F_law_pick := F_law_pick, g_law_pick := He.glo_ok X G (c.fact 29 (f := .glo "_law_pick") rfl), b_law_pick := (F_law_pick.bindsN fun _ _ _ _ _ _ us hl => match us, hl with | [_, _], _ => rfl), f_law_near := _, fd_law_near := _, F_law_near := F_law_near, g_law_near := He.glo_ok X G (c.fact 30 (f := .glo "_law_near") rfl), b_law_near := (F_law_near.bindsN fun _ _ _ _ _ _ us hl => match us, hl with | [_, _], _ => rfl), f_law_gcd := _, fd_law_gcd := _, F_law_gcd := F_law_gcd, g_law_gcd := He.glo_ok X G (c.fact 31 (f := .glo "_law_gcd") rfl), b_law_gcd := (F_law_gcd.bindsN fun _ _ _ _ _ _ us hl => match us, hl with | [_, _], _ => rfl), f_law_lowest := _, fd_law_lowest := _, F_law_lowest := F_law_lowest, g_law_lowest := He.glo_ok X G (c.fact 32 (f := .glo "_law_lowest") rfl), b_law_lowest := (F_law_lowest.bindsN fun _ _ _ _ _ _ us hl => match us, hl with | [_, _], _ => rfl), f_law_ratio_sum := _, fd_law_ratio_sum := _, F_law_ratio_sum := F_law_ratio_sum, g_law_ratio_sum := He.glo_ok X G (c.fact 33 (f := .glo "_law_ratio_sum") rfl), b_law_ratio_sum := (F_law_ratio_sum.bindsN fun _ _ _ _ _ _ us hl => match us, hl with | [_, _], _ => rfl), f_law_ratio_product := _, fd_law_ratio_product := _, F_law_ratio_product := F_law_ratio_product, g_law_ratio_product := He.glo_ok X G (c.fact 34 (f := .glo "_law_ratio_product") rfl), b_law_ratio_product := (F_law_ratio_product.bindsN fun _ _ _ _ _ _ us hl => match us, hl with | [_, _], _ => rfl), f_law_some_ratio := _, fd_law_some_ratio := _, F_law_some_ratio := F_law_some_ratio, g_law_some_ratio := He.glo_ok X G (c.fact 35 (f := .glo "_law_some_ratio") rfl), b_law_some_ratio := (F_law_some_ratio.bindsN fun _ _ _ _ _ _ us hl => match us, hl with | [_, _], _ => rfl), f_law_int_root := _, fd_law_int_root := _, F_law_int_root := F_law_int_root, g_law_int_root := He.glo_ok X G (c.fact 36 (f := .glo "_law_int_root") rfl), b_law_int_root := (F_law_int_root.bindsN fun _ _ _ _ _ _ us hl => match us, hl with | [_], _ => rfl), f_law_text_of := _, fd_law_text_of := _, F_law_text_of := F_law_text_of, g_law_text_of := He.glo_ok X G (c.fact 37 (f := .glo "_law_text_of") rfl), b_law_text_of := (F_law_text_of.bindsN fun _ _ _ _ _ _ us hl => match us, hl with | [_], _ => rfl), f_law_root_due := _, fd_law_root_due := _, F_law_root_due := F_law_root_due, g_law_root_due := He.glo_ok X G (c.fact 38 (f := .glo "_law_root_due") rfl), b_law_root_due := (F_law_root_due.bindsN fun _ _ _ _ _ _ us hl => match us, hl with | [_], _ => rfl), f_law_pair_right := _, fd_law_pair_right := _, F_law_pair_right := F_law_pair_right, g_law_pair_right := He.glo_ok X G (c.fact 39 (f := .glo "_law_pair_right") rfl), b_law_pair_right := (F_law_pair_right.bindsN fun _ _ _ _ _ _ us hl => match us, hl with | [_, _, _], _ => rfl), f_law_right := _, fd_law_right := _, F_law_right := F_law_right, g_law_right := He.glo_ok X G (c.fact 40 (f := .glo "_law_right") rfl), b_law_right := (F_law_right.bindsN fun _ _ _ _ _ _ us hl => match us, hl with | [_], _ => rfl), f_law := _, fd_law := _, F_law := F_law, g_law := He.glo_ok X G (c.fact 41 (f := .glo "law") rfl), b_law := (F_law.bindsN fun _ _ _ _ _ _ us hl => match us, hl with | [_], _ => rfl), z_abs := He.free_ok X G (c.fact 42 (f := .free "abs") rfl), z_all := He.free_ok X G (c.fact 43 (f := .free "all") rfl), z_bool := He.free_ok X G (c.fact 44 (f := .free "bool") rfl), z_int := He.free_ok X G (c.fact 45 (f := .free "int") rfl), z_isinstance := He.free_ok X G (c.fact 46 (f := .free "isinstance") rfl), z_len := He.free_ok X G (c.fact 47 (f := .free "len") rfl), z_max := He.free_ok X G (c.fact 48 (f := .free "max") rfl), z_min := He.free_ok X G (c.fact 49 (f := .free "min") rfl), z_range := He.free_ok X G (c.fact 50 (f := .free "range") rfl), z_str := He.free_ok X G (c.fact 51 (f := .free "str") rfl), z_tuple := He.free_ok X G (c.fact 52 (f := .free "tuple") rfl), m_gcd := PySem.W.mg_of X G (He.eqO_ok ex_0), m_isqrt := PySem.W.mg_of X G (He.eqO_ok ex_1), c_GREATEST := He.int_ok X G (c.fact 53 (f := .int "GREATEST" 1000000000000000000000000000000000000000000000000000000000000) rfl) }⟩

end K00

set_option Elab.async false
set_option linter.all false
set_option maxRecDepth 100000
set_option maxHeartbeats 4000000
namespace K00
open PySem PySem.Spec PyProof.Rows L2 MyR
/-! ### values by their sort -/
inductive Srt (H : Hp) : V → String → Prop where
  | non : Srt H .non "NoneType"
  | bl (b : Bool) : Srt H (.bl b) "bool"
  | int (i : Int) : Srt H (.int i) "int"
  | str (x : Str) : Srt H (.str x) "str"
  | lst {a : Addr} {xs : List V} (e : H a = some (.lst xs)) : Srt H (.ref a) "list"
  | tup {a : Addr} {xs : List V} (e : H a = some (.tup xs)) : Srt H (.ref a) "tuple"
theorem Srt.ty {K : PySem.W.Frag} {H : Hp} {x : V} {n : String} (h : Srt H x n) : TyX K H x (.type n) := by
  cases h with
  | non => exact .base .non
  | bl b => exact .base (.bl b)
  | int i => exact .base (.int i)
  | str x => exact .base (.str x)
  | lst e => exact .base (.lst e)
  | tup e => exact .base (.tup e)
theorem Srt.same {H H' : Hp} {x : V} {n : String} (h : Srt H x n) (s : Same H H') : Srt H' x n := by
  cases h with
  | non => exact .non
  | bl b => exact .bl b
  | int i => exact .int i
  | str x => exact .str x
  | lst e => exact .lst (s _ _ e)
  | tup e => exact .tup (s _ _ e)
def big : Int := 1000000000000000000000000000000000000000000000000000000000000
def whV : V → Bool
  | .int _ => true
  | _ => false
def shV : V → Bool
  | .int i => decide (-big < i) && decide (i < big)
  | _ => false
section
variable {P : Program} {w : World} {K : PySem.W.Frag} {mg : Str → Option Value} {base : Heap}
def ibV : V → Bool
  | .int _ => true
  | .bl _ => true
  | _ => false
def blV : V → Bool
  | .bl _ => true
  | _ => false
def spWhole : Sp := fun vs H Q _ => ∃ (x : V) (n : String), vs = [x] ∧ Srt H x n ∧ Q (.bl (whV x)) H
theorem isi_int {H : Hp} {x : V} {n : String} (h : Srt H x n) : PySem.W.kitOne K (.type n) (.type "int") = some (ibV x) := by
  cases h <;> exact kit_ty (show kitB _ _ = some _ from by first | exact (show kitB "NoneType" "int" = some false by decide +kernel) | exact (show kitB "bool" "int" = some true by decide +kernel) | exact (show kitB "int" "int" = some true by decide +kernel) | exact (show kitB "str" "int" = some false by decide +kernel) | exact (show kitB "list" "int" = some false by decide +kernel) | exact (show kitB "tuple" "int" = some false by decide +kernel))
theorem isi_bool {H : Hp} {x : V} {n : String} (h : Srt H x n) : PySem.W.kitOne K (.type n) (.type "bool") = some (blV x) := by
  cases h <;> exact kit_ty (show kitB _ _ = some _ from by first | exact (show kitB "NoneType" "bool" = some false by decide +kernel) | exact (show kitB "bool" "bool" = some true by decide +kernel) | exact (show kitB "int" "bool" = some false by decide +kernel) | exact (show kitB "str" "bool" = some false by decide +kernel) | exact (show kitB "list" "bool" = some false by decide +kernel) | exact (show kitB "tuple" "bool" = some false by decide +kernel))
theorem isi_tuple {H : Hp} {x : V} {n : String} (h : Srt H x n) : PySem.W.kitOne K (.type n) (.type "tuple") = some (decide (n = "tuple")) := by
  cases h <;> exact kit_ty (by decide +kernel)
theorem ok_is_whole (T : Facts K mg) : FnOk P w K mg base CX0 1 T.f_is_whole T.fd_is_whole ["value"] spWhole := by
  refine T.F_is_whole.ok sc_is_whole (fun vs H Q E h => ?_) (fun cdv A outer s H vs Q E hr h => ?_)
  · obtain ⟨x, n, rfl, _⟩ := h
    rfl
  · obtain ⟨x, n, rfl, hx, q⟩ := h
    refine ⟨_, (PSs.nox (pss_one (ps_ret (pe_and (pe_callB call_isi (by rfl) T.z_isinstance (by decide +kernel) (pa_cons (pv 0) (pa_cons (pe_bltn (v := .ty "int") (by rfl) T.z_int (by decide +kernel) rfl) pa_nil))) (pe_one (pe_not (pe_callB call_isi (by rfl) T.z_isinstance (by decide +kernel) (pa_cons (pv 0) (pa_cons (pe_bltn (v := .ty "bool") (by rfl) T.z_bool (by decide +kernel) rfl) pa_nil))))))))), ?_⟩
    refine ⟨x, rfl, x, .ty "int", .type n, .type "int", _, rfl, .ty "int", hx.ty, isi_int hx, _, rfl, ?_⟩
    have hb := isi_bool (K := K) hx
    cases hx with
    | int i => exact iteT ⟨.int i, rfl, .int i, .ty "bool", .type "int", .type "bool", false, rfl, .ty "bool", (Srt.int (H := H) i).ty, hb, false, rfl, q⟩
    | bl b => exact iteT ⟨.bl b, rfl, .bl b, .ty "bool", .type "bool", .type "bool", true, rfl, .ty "bool", (Srt.bl (H := H) b).ty, hb, true, rfl, q⟩
    | _ => exact iteF q
def spShort : Sp := fun vs H Q _ => ∃ (x : V) (n : String), vs = [x] ∧ Srt H x n ∧ Q (.bl (shV x)) H
theorem ok_is_short (T : Facts K mg) : FnOk P w K mg base CX0 2 T.f_is_short T.fd_is_short ["value"] spShort := by
  have G_is_whole : FnOk P w K mg base CX0 1 T.f_is_whole T.fd_is_whole ["value"] spWhole := ok_is_whole T
  refine T.F_is_short.ok sc_is_short (fun vs H Q E h => ?_) (fun cdv A outer s H vs Q E hr h => ?_)
  · obtain ⟨x, n, rfl, _⟩ := h
    rfl
  · obtain ⟨x, n, rfl, hx, q⟩ := h
    refine ⟨_, (PSs.nox (pss_one (ps_ret (pe_and (pe_call G_is_whole hr (by rfl) T.g_is_whole T.F_is_whole.kp T.b_is_whole .nil pass0 (pa_cons (pv 0) pa_nil)) (pe_one (pe_chain op_lt op_lt (pe_un un_neg (pe_glob (v := .int 1000000000000000000000000000000000000000000000000000000000000) (by rfl) T.c_GREATEST.choose_spec ⟨_, rfl⟩)) (pv 0) (pe_glob (v := .int 1000000000000000000000000000000000000000000000000000000000000) (by rfl) T.c_GREATEST.choose_spec ⟨_, rfl⟩))))))), ?_⟩
    refine ⟨x, rfl, x, n, rfl, hx, _, rfl, ?_⟩
    cases hx with
    | int i =>
      refine iteT ⟨_, rfl, .int i, rfl, _, i, rfl, rfl, decide (-big < i), rfl, ?_⟩
      by_cases c : -big < i
      · rw [decide_eq_true c]
        refine iteT ⟨i, big, rfl, rfl, ?_⟩
        have e : shV (.int i) = decide (i < big) := by
          show (decide (-big < i) && decide (i < big)) = _
          rw [decide_eq_true c, Bool.true_and]
        rw [e] at q
        exact q
      · rw [decide_eq_false c]
        have e : shV (.int i) = false := by
          show (decide (-big < i) && decide (i < big)) = _
          rw [decide_eq_false c, Bool.false_and]
        rw [e] at q
        exact iteF q
    | _ => exact iteF q
def spReqShort : Sp := fun vs H Q _ => ∃ i : Int, vs = [.int i] ∧ shV (.int i) = true ∧ Q .non H
theorem ok_require_short (T : Facts K mg) : FnOk P w K mg base CX0 3 T.f_require_short T.fd_require_short ["value"] spReqShort := by
  have G_is_short : FnOk P w K mg base CX0 2 T.f_is_short T.fd_is_short ["value"] spShort := ok_is_short T
  refine T.F_require_short.ok sc_require_short (fun vs H Q E h => ?_) (fun cdv A outer s H vs Q E hr h => ?_)
  · obtain ⟨i, rfl, _⟩ := h
    rfl
  · obtain ⟨i, rfl, hs, q⟩ := h
    refine ⟨_, (PSs.nox (pss_one (ps_if (pt_not (pt_val (pe_call G_is_short hr (by rfl) T.g_is_short T.F_is_short.kp T.b_is_short .nil pass0 (pa_cons (pv 0) pa_nil))))
      (pss_one ps_never)
      pss_nil))), ?_⟩
    refine ⟨.int i, rfl, .int i, "int", rfl, .int i, true, ?_, iteF q⟩
    rw [hs]
/-- a tuple of values of told sorts, or what is no tuple -/
def spAreShort : Sp := fun vs H Q _ => (∃ (a : Addr) (xs : List V), vs = [.ref a] ∧ H a = some (.tup xs) ∧ xs.length ≤ 1000 ∧ (∀ y ∈ xs, ∃ n, Srt H y n) ∧ ∀ H', Same H H' → Q (.bl (xs.all shV)) H') ∨
  ∃ (x : V) (n : String), vs = [x] ∧ Srt H x n ∧ n ≠ "tuple" ∧ Q (.bl false) H
theorem ok_are_short (T : Facts K mg) : FnOk P w K mg base CX0 3 T.f_are_short T.fd_are_short ["value"] spAreShort := by
  have G_is_short : FnOk P w K mg base CX0 2 T.f_is_short T.fd_is_short ["value"] spShort := ok_is_short T
  refine T.F_are_short.ok sc_are_short (fun vs H Q E h => ?_) (fun cdv A outer s H vs Q E hr h => ?_)
  · rcases h with ⟨a, xs, rfl, _⟩ | ⟨x, n, rfl, _⟩ <;> rfl
  · rcases h with ⟨a, xs, rfl, hx, hl, hs, q⟩ | ⟨x, n, rfl, hx, hn, q⟩
    · refine ⟨_, (PSs.nox (pss_one (ps_ret (pe_and (pe_callB call_isi (by rfl) T.z_isinstance (by decide +kernel) (pa_cons (pv 0) (pa_cons (pe_bltn (v := .ty "tuple") (by rfl) T.z_tuple (by decide +kernel) rfl) pa_nil))) (pe_one (pe_callB (cr_all (by rfl)) (by rfl) T.z_all (by decide +kernel) (pa_cons (pe_lc (own := [("entry", 1)]) (g := (gName 1)) (tt := tYes) (by rfl) sc_are_short.nd (pi_tup (pv 0)) (blkOk_by (N := N_are_short) (sc := defScope s_are_short) (by decide +kernel)) (fun _ _ _ _ _ => (pg_name (i := 1) sc_are_short.nd rfl (.inl rfl))) (fun _ _ _ _ _ => pts_nil) (fun _ _ _ _ _ => (pe_call G_is_short hr (by rfl) T.g_is_short T.F_is_short.kp T.b_is_short .nil pass0 (pa_cons (pv 1) pa_nil)))) pa_nil))))))), ?_⟩
      have st : Srt H (.ref a) "tuple" := .tup hx
      refine ⟨.ref a, rfl, .ref a, .ty "tuple", .type "tuple", .type "tuple", true, rfl, .ty "tuple", st.ty, isi_tuple st, true, rfl, iteT ?_⟩
      refine ⟨.ref a, rfl, a, rfl, ⟨xs, SqT.of hx⟩, fun D hD => lc_tup (xs := xs) (fun i H' => H' = upd H D (.lst ((xs.take i).map fun y => V.bl (shV y)))) rfl (fun i H' hi hP => ?_) (fun i x H' hi hP => ?_) (fun H' hP => ?_)⟩
      · rw [hP]
        exact SqT.of (same_upd0 hD _ _ hx)
      · subst hP
        obtain ⟨n, hn⟩ := hs x (List.mem_of_getElem? hi)
        have hlt : i < xs.length := (List.getElem?_eq_some_iff.mp hi).1
        refine ⟨rfl, ⟨x, rfl, x, n, rfl, hn.same (same_upd0 hD), _, upd_same, ?_, ?_⟩⟩
        · rw [List.length_map, List.length_take]
          exact small1000 (by omega)
        · rw [upd_upd, List.take_add_one, hi, List.map_append]
          rfl
      · subst hP
        rw [List.take_length]
        refine ⟨D, xs.map shV, rfl, SqL.of (by rw [upd_same, List.map_map]; rfl), ?_⟩
        have e : (xs.map shV).all id = xs.all shV := by
          rw [List.all_map]
          rfl
        rw [e]
        exact q _ (same_upd0 hD)
    · refine ⟨_, (PSs.nox (pss_one (ps_ret (pe_and (pe_callB call_isi (by rfl) T.z_isinstance (by decide +kernel) (pa_cons (pv 0) (pa_cons (pe_bltn (v := .ty "tuple") (by rfl) T.z_tuple (by decide +kernel) rfl) pa_nil))) (pe_one (pe_callB (cr_all (by rfl)) (by rfl) T.z_all (by decide +kernel) (pa_cons (pe_lc (own := [("entry", 1)]) (g := (gName 1)) (tt := tYes) (by rfl) sc_are_short.nd (pi_tup (pv 0)) (blkOk_by (N := N_are_short) (sc := defScope s_are_short) (by decide +kernel)) (fun _ _ _ _ _ => (pg_name (i := 1) sc_are_short.nd rfl (.inl rfl))) (fun _ _ _ _ _ => pts_nil) (fun _ _ _ _ _ => (pe_call G_is_short hr (by rfl) T.g_is_short T.F_is_short.kp T.b_is_short .nil pass0 (pa_cons (pv 1) pa_nil)))) pa_nil))))))), ?_⟩
      refine ⟨x, rfl, x, .ty "tuple", .type n, .type "tuple", false, rfl, .ty "tuple", hx.ty, ?_, false, rfl, iteF q⟩
      rw [isi_tuple hx, decide_eq_false hn]
end
end K00

set_option Elab.async false
set_option linter.all false
set_option maxRecDepth 100000
set_option maxHeartbeats 4000000
namespace K00
open PySem PySem.Spec PyProof.Rows L2 MyR
abbrev tup2 (p : Int × Int) : HO := .tup [.int p.1, .int p.2]
abbrev F4 := Int → Int → Int → Int → Int
def nPlus : F4 := fun a b c d => a * d + c * b
def nMinus : F4 := fun a b c d => a * d - c * b
def nTimes : F4 := fun a _ c _ => a * c
def dMul : F4 := fun _ b _ d => b * d
def nOver : F4 := fun a _ _ d => a * d
def dOver : F4 := fun _ b c _ => b * c
def sm (x : Int) : Prop := x.natAbs < 2 ^ 400
theorem sm_mul {x y : Int} (hx : sm x) (hy : sm y) : CMulW x y := wide_mul hx hy (by decide) (by decide) (by decide)
theorem sm_lt {x y : Int} (hx : sm x) (hy : sm y) : (x * y).natAbs < 2 ^ 800 := wide_lt hx hy
theorem pI_div {t b : Int} (h : b ≠ 0) (hb : b.natAbs < 2 ^ 801) : pI t b ≠ 0 ∧ (pI t b).natAbs.log2 < 9000 := by
  refine ⟨pI_ne h, ?_⟩
  rw [pI_abs]
  have h1 : Nat.gcd t.natAbs b.natAbs ≤ b.natAbs := Nat.le_of_dvd (Int.natAbs_pos.mpr h) (Nat.gcd_dvd_right _ _)
  exact Nat.lt_trans (PySem.Flt.log2_lt_of (by decide) (Nat.lt_of_le_of_lt h1 hb)) (by decide)
section
variable {P : Program} {w : World} {K : PySem.W.Frag} {mg : Str → Option Value} {base : Heap}
def spLow : Sp := fun vs H Q _ => ∃ t b : Int, vs = [.int t, .int b] ∧ b ≠ 0 ∧ b.natAbs < 2 ^ 801 ∧ ∀ p, H p = none → Q (.ref p) (upd H p (tup2 (low t b)))
theorem ok_lowest_of (T : Facts K mg) : FnOk P w K mg base CX0 1 T.f_lowest_of T.fd_lowest_of ["top", "bottom"] spLow := by
  refine T.F_lowest_of.ok sc_lowest_of (fun vs H Q E h => ?_) (fun cdv A outer s H vs Q E hr h => ?_)
  · obtain ⟨t, b, rfl, _⟩ := h
    rfl
  · obtain ⟨t, b, rfl, hb, hl, q⟩ := h
    refine ⟨_, (PSs.nox (pss_cons (ps_set (i := 2) sc_lowest_of.nd rfl (.inl rfl) (pe_callBfun cr_gcd (by rfl) T.m_gcd (pa_cons (pv 0) (pa_cons (pv 1) pa_nil))))
    (pss_cons (ps_set (i := 2) sc_lowest_of.nd rfl (.inl rfl) (pe_ifExp (pt_cmpR op_gt (pv 1) pe_int (nomark _)) (pv 2) (pe_un un_neg (pv 2))))
    (pss_one (ps_ret (pe_tup (pa_cons (pe_op op_fdivZ (pv 0) (pv 2)) (pa_cons (pe_op op_fdivZ (pv 1) (pv 2)) pa_nil)))))))), ?_⟩
    have hz := pI_div (t := t) hb hl
    refine ⟨_, rfl, _, rfl, t, b, rfl, ?_⟩
    refine ⟨_, rfl, _, _, rfl, rfl, _, rfl, ?_⟩
    by_cases c : 0 < b
    · rw [decide_eq_true c]
      have ep : pI t b = gI t b := if_pos c
      rw [ep] at hz
      refine iteT ⟨_, rfl, _, rfl, _, rfl, _, _, rfl, rfl, hz, _, rfl, _, rfl, _, _, rfl, rfl, hz, (by show 2 ≤ sizeLine; decide), fun p hp => ?_⟩
      have q' := q p hp
      unfold low at q'
      rw [ep] at q'
      exact q'
    · rw [decide_eq_false c]
      have ep : pI t b = -(gI t b) := if_neg c
      rw [ep] at hz
      refine iteF ⟨_, rfl, _, rfl, _, rfl, _, rfl, _, _, rfl, rfl, hz, _, rfl, _, rfl, _, _, rfl, rfl, hz, (by show 2 ≤ sizeLine; decide), fun p hp => ?_⟩
      have q' := q p hp
      unfold low at q'
      rw [ep] at q'
      exact q'
/-- two tuples of two small ints, something of them in lowest terms -/
def spQ (K : PySem.W.Frag) (nm dn : F4) : Sp := fun vs H Q _ => ∃ (a b : Addr) (a0 a1 b0 b1 : Int), vs = [.ref a, .ref b] ∧ SqT K H a [.int a0, .int a1] ∧ SqT K H b [.int b0, .int b1] ∧ (sm a0 ∧ sm a1 ∧ sm b0 ∧ sm b1) ∧ dn a0 a1 b0 b1 ≠ 0 ∧
  ∀ p, H p = none → Q (.ref p) (upd H p (tup2 (low (nm a0 a1 b0 b1) (dn a0 a1 b0 b1))))
theorem ix0 {x y : V} : atI [x, y] 0 = some x := atI_nat (j := 0) rfl
theorem ix1 {x y : V} : atI [x, y] 1 = some y := atI_nat (j := 1) rfl
theorem lt801 {n : Nat} (h : n < 2 ^ 800) : n < 2 ^ 801 := Nat.lt_trans h (Nat.pow_lt_pow_right (by decide) (by decide))
theorem ok_plus_of (T : Facts K mg) : FnOk P w K mg base CX0 2 T.f_plus_of T.fd_plus_of ["one", "other"] (spQ K nPlus dMul) := by
  have G_lowest_of : FnOk P w K mg base CX0 1 T.f_lowest_of T.fd_lowest_of ["top", "bottom"] spLow := ok_lowest_of T
  refine T.F_plus_of.ok sc_plus_of (fun vs H Q E h => ?_) (fun cdv A outer s H vs Q E hr h => ?_)
  · obtain ⟨a, b, a0, a1, b0, b1, rfl, _⟩ := h
    rfl
  · obtain ⟨a, b, a0, a1, b0, b1, rfl, ha, hb, ⟨h0, h1, h2, h3⟩, hd, q⟩ := h
    refine ⟨_, (PSs.nox (pss_one (ps_ret (pe_call G_lowest_of hr (by rfl) T.g_lowest_of T.F_lowest_of.kp T.b_lowest_of .nil pass0 (pa_cons (pe_op op_add (pe_op op_mulW (pe_ix ix_tup (pv 0) pe_int (fun _ _ => rfl)) (pe_ix ix_tup (pv 1) pe_int (fun _ _ => rfl))) (pe_op op_mulW (pe_ix ix_tup (pv 1) pe_int (fun _ _ => rfl)) (pe_ix ix_tup (pv 0) pe_int (fun _ _ => rfl)))) (pa_cons (pe_op op_mulW (pe_ix ix_tup (pv 0) pe_int (fun _ _ => rfl)) (pe_ix ix_tup (pv 1) pe_int (fun _ _ => rfl))) pa_nil)))))), ?_⟩
    refine ⟨_, rfl, a, _, 0, _, rfl, rfl, ha, ix0, _, rfl, b, _, 1, _, rfl, rfl, hb, ix1, _, _, rfl, rfl, sm_mul h0 h3, _, rfl, b, _, 0, _, rfl, rfl, hb, ix0, _, rfl, a, _, 1, _, rfl, rfl, ha, ix1, _, _, rfl, rfl, sm_mul h2 h1, _, _, rfl, rfl, _, rfl, a, _, 1, _, rfl, rfl, ha, ix1, _, rfl, b, _, 1, _, rfl, rfl, hb, ix1, _, _, rfl, rfl, sm_mul h1 h3, ?_⟩
    exact ⟨_, _, rfl, hd, lt801 (sm_lt h1 h3), q⟩
theorem ok_minus_of (T : Facts K mg) : FnOk P w K mg base CX0 2 T.f_minus_of T.fd_minus_of ["one", "other"] (spQ K nMinus dMul) := by
  have G_lowest_of : FnOk P w K mg base CX0 1 T.f_lowest_of T.fd_lowest_of ["top", "bottom"] spLow := ok_lowest_of T
  refine T.F_minus_of.ok sc_minus_of (fun vs H Q E h => ?_) (fun cdv A outer s H vs Q E hr h => ?_)
  · obtain ⟨a, b, a0, a1, b0, b1, rfl, _⟩ := h
    rfl
  · obtain ⟨a, b, a0, a1, b0, b1, rfl, ha, hb, ⟨h0, h1, h2, h3⟩, hd, q⟩ := h
    refine ⟨_, (PSs.nox (pss_one (ps_ret (pe_call G_lowest_of hr (by rfl) T.g_lowest_of T.F_lowest_of.kp T.b_lowest_of .nil pass0 (pa_cons (pe_op op_sub (pe_op op_mulW (pe_ix ix_tup (pv 0) pe_int (fun _ _ => rfl)) (pe_ix ix_tup (pv 1) pe_int (fun _ _ => rfl))) (pe_op op_mulW (pe_ix ix_tup (pv 1) pe_int (fun _ _ => rfl)) (pe_ix ix_tup (pv 0) pe_int (fun _ _ => rfl)))) (pa_cons (pe_op op_mulW (pe_ix ix_tup (pv 0) pe_int (fun _ _ => rfl)) (pe_ix ix_tup (pv 1) pe_int (fun _ _ => rfl))) pa_nil)))))), ?_⟩
    refine ⟨_, rfl, a, _, 0, _, rfl, rfl, ha, ix0, _, rfl, b, _, 1, _, rfl, rfl, hb, ix1, _, _, rfl, rfl, sm_mul h0 h3, _, rfl, b, _, 0, _, rfl, rfl, hb, ix0, _, rfl, a, _, 1, _, rfl, rfl, ha, ix1, _, _, rfl, rfl, sm_mul h2 h1, _, _, rfl, rfl, _, rfl, a, _, 1, _, rfl, rfl, ha, ix1, _, rfl, b, _, 1, _, rfl, rfl, hb, ix1, _, _, rfl, rfl, sm_mul h1 h3, ?_⟩
    exact ⟨_, _, rfl, hd, lt801 (sm_lt h1 h3), q⟩
theorem ok_times_of (T : Facts K mg) : FnOk P w K mg base CX0 2 T.f_times_of T.fd_times_of ["one", "other"] (spQ K nTimes dMul) := by
  have G_lowest_of : FnOk P w K mg base CX0 1 T.f_lowest_of T.fd_lowest_of ["top", "bottom"] spLow := ok_lowest_of T
  refine T.F_times_of.ok sc_times_of (fun vs H Q E h => ?_) (fun cdv A outer s H vs Q E hr h => ?_)
  · obtain ⟨a, b, a0, a1, b0, b1, rfl, _⟩ := h
    rfl
  · obtain ⟨a, b, a0, a1, b0, b1, rfl, ha, hb, ⟨h0, h1, h2, h3⟩, hd, q⟩ := h
    refine ⟨_, (PSs.nox (pss_one (ps_ret (pe_call G_lowest_of hr (by rfl) T.g_lowest_of T.F_lowest_of.kp T.b_lowest_of .nil pass0 (pa_cons (pe_op op_mulW (pe_ix ix_tup (pv 0) pe_int (fun _ _ => rfl)) (pe_ix ix_tup (pv 1) pe_int (fun _ _ => rfl))) (pa_cons (pe_op op_mulW (pe_ix ix_tup (pv 0) pe_int (fun _ _ => rfl)) (pe_ix ix_tup (pv 1) pe_int (fun _ _ => rfl))) pa_nil)))))), ?_⟩
    refine ⟨_, rfl, a, _, 0, _, rfl, rfl, ha, ix0, _, rfl, b, _, 0, _, rfl, rfl, hb, ix0, _, _, rfl, rfl, sm_mul h0 h2, _, rfl, a, _, 1, _, rfl, rfl, ha, ix1, _, rfl, b, _, 1, _, rfl, rfl, hb, ix1, _, _, rfl, rfl, sm_mul h1 h3, ?_⟩
    exact ⟨_, _, rfl, hd, lt801 (sm_lt h1 h3), q⟩
theorem ok_over_of (T : Facts K mg) : FnOk P w K mg base CX0 2 T.f_over_of T.fd_over_of ["one", "other"] (spQ K nOver dOver) := by
  have G_lowest_of : FnOk P w K mg base CX0 1 T.f_lowest_of T.fd_lowest_of ["top", "bottom"] spLow := ok_lowest_of T
  refine T.F_over_of.ok sc_over_of (fun vs H Q E h => ?_) (fun cdv A outer s H vs Q E hr h => ?_)
  · obtain ⟨a, b, a0, a1, b0, b1, rfl, _⟩ := h
    rfl
  · obtain ⟨a, b, a0, a1, b0, b1, rfl, ha, hb, ⟨h0, h1, h2, h3⟩, hd, q⟩ := h
    refine ⟨_, (PSs.nox (pss_one (ps_ret (pe_call G_lowest_of hr (by rfl) T.g_lowest_of T.F_lowest_of.kp T.b_lowest_of .nil pass0 (pa_cons (pe_op op_mulW (pe_ix ix_tup (pv 0) pe_int (fun _ _ => rfl)) (pe_ix ix_tup (pv 1) pe_int (fun _ _ => rfl))) (pa_cons (pe_op op_mulW (pe_ix ix_tup (pv 0) pe_int (fun _ _ => rfl)) (pe_ix ix_tup (pv 1) pe_int (fun _ _ => rfl))) pa_nil)))))), ?_⟩
    refine ⟨_, rfl, a, _, 0, _, rfl, rfl, ha, ix0, _, rfl, b, _, 1, _, rfl, rfl, hb, ix1, _, _, rfl, rfl, sm_mul h0 h3, _, rfl, a, _, 1, _, rfl, rfl, ha, ix1, _, rfl, b, _, 0, _, rfl, rfl, hb, ix0, _, _, rfl, rfl, sm_mul h1 h2, ?_⟩
    exact ⟨_, _, rfl, hd, lt801 (sm_lt h1 h2), q⟩
def cmpI (l r : Int) : Int := (if decide (r < l) then 1 else 0) - (if decide (l < r) then 1 else 0)
def spCmp (K : PySem.W.Frag) : Sp := fun vs H Q _ => ∃ (a b : Addr) (a0 a1 b0 b1 : Int), vs = [.ref a, .ref b] ∧ SqT K H a [.int a0, .int a1] ∧ SqT K H b [.int b0, .int b1] ∧ (sm a0 ∧ sm a1 ∧ sm b0 ∧ sm b1) ∧ Q (.int (cmpI (a0 * b1) (b0 * a1))) H
theorem ok_compared_of (T : Facts K mg) : FnOk P w K mg base CX0 1 T.f_compared_of T.fd_compared_of ["one", "other"] (spCmp K) := by
  refine T.F_compared_of.ok sc_compared_of (fun vs H Q E h => ?_) (fun cdv A outer s H vs Q E hr h => ?_)
  · obtain ⟨a, b, a0, a1, b0, b1, rfl, _⟩ := h
    rfl
  · obtain ⟨a, b, a0, a1, b0, b1, rfl, ha, hb, ⟨h0, h1, h2, h3⟩, q⟩ := h
    refine ⟨_, (PSs.nox (pss_cons (ps_par (i := 2) (j := 3) (by rfl) sc_compared_of.nd rfl rfl (by decide) rfl rfl (pa_cons (pe_op op_mulW (pe_ix ix_tup (pv 0) pe_int (fun _ _ => rfl)) (pe_ix ix_tup (pv 1) pe_int (fun _ _ => rfl))) (pa_cons (pe_op op_mulW (pe_ix ix_tup (pv 1) pe_int (fun _ _ => rfl)) (pe_ix ix_tup (pv 0) pe_int (fun _ _ => rfl))) pa_nil)) (by rfl))
    (pss_one (ps_ret (pe_op op_sub (pe_callTy call_int1 (by rfl) T.z_int (by decide +kernel) (pa_cons (pe_cmpR op_gt (pv 2) (pv 3) (nomark _)) pa_nil)) (pe_callTy call_int1 (by rfl) T.z_int (by decide +kernel) (pa_cons (pe_cmpR op_lt (pv 2) (pv 3) (nomark _)) pa_nil))))))), ?_⟩
    refine ⟨_, rfl, a, _, 0, _, rfl, rfl, ha, ix0, _, rfl, b, _, 1, _, rfl, rfl, hb, ix1, _, _, rfl, rfl, sm_mul h0 h3, _, rfl, b, _, 0, _, rfl, rfl, hb, ix0, _, rfl, a, _, 1, _, rfl, rfl, ha, ix1, _, _, rfl, rfl, sm_mul h2 h1, _, _, rfl, ?_⟩
    exact ⟨_, rfl, _, rfl, _, _, rfl, rfl, .inr ⟨_, rfl, _, rfl, _, rfl, _, _, rfl, rfl, .inr ⟨_, rfl, _, _, rfl, rfl, q⟩⟩⟩
/-! ### what is a ratio -/
def pairB (u v : Int) : Bool := decide (0 < v) && decide (Nat.gcd u.natAbs v.natAbs = 1)
def ratB (xs : List V) : Bool := xs.all shV && (decide (xs.length = 2) && (match xs with | [.int u, .int v] => pairB u v | _ => false))
def spPair (K : PySem.W.Frag) : Sp := fun vs H Q _ => ∃ (a : Addr) (u v : Int), vs = [.ref a] ∧ SqT K H a [.int u, .int v] ∧ Q (.bl (pairB u v)) H
theorem ok_is_pair_of_ratio (T : Facts K mg) : FnOk P w K mg base CX0 1 T.f_is_pair_of_ratio T.fd_is_pair_of_ratio ["value"] (spPair K) := by
  refine T.F_is_pair_of_ratio.ok sc_is_pair_of_ratio (fun vs H Q E h => ?_) (fun cdv A outer s H vs Q E hr h => ?_)
  · obtain ⟨a, u, v, rfl, _⟩ := h
    rfl
  · obtain ⟨a, u, v, rfl, ha, q⟩ := h
    refine ⟨_, (PSs.nox (pss_one (ps_ret (pe_and (pe_cmpR op_gt (pe_ix ix_tup (pv 0) pe_int (fun _ _ => rfl)) pe_int (nomark _)) (pe_one (pe_cmpR op_eq (pe_callBfun cr_gcd (by rfl) T.m_gcd (pa_cons (pe_ix ix_tup (pv 0) pe_int (fun _ _ => rfl)) (pa_cons (pe_ix ix_tup (pv 0) pe_int (fun _ _ => rfl)) pa_nil))) pe_int (nomark _))))))), ?_⟩
    refine ⟨_, rfl, a, _, 1, _, rfl, rfl, ha, ix1, _, _, rfl, rfl, decide (0 < v), rfl, ?_⟩
    by_cases c : 0 < v
    · rw [decide_eq_true c]
      refine iteT ⟨_, rfl, a, _, 0, _, rfl, rfl, ha, ix0, _, rfl, a, _, 1, _, rfl, rfl, ha, ix1, u, v, rfl, rfl, ?_⟩
      have e : pairB u v = decide (V.int ((Nat.gcd u.natAbs v.natAbs : Nat) : Int) = V.int 1) := by
        unfold pairB
        rw [decide_eq_true c, Bool.true_and]
        by_cases g : Nat.gcd u.natAbs v.natAbs = 1
        · rw [decide_eq_true g, g]
          rfl
        · rw [decide_eq_false g, decide_eq_false fun z => g (by have := V.int.inj z; omega)]
      rw [e] at q
      exact q
    · rw [decide_eq_false c]
      have e : pairB u v = false := by
        unfold pairB
        rw [decide_eq_false c, Bool.false_and]
      rw [e] at q
      exact iteF q
def spRatIn : Sp := fun vs H Q _ => (∃ (a : Addr) (xs : List V), vs = [.ref a] ∧ H a = some (.tup xs) ∧ xs.length ≤ 1000 ∧ (∀ y ∈ xs, ∃ n, Srt H y n) ∧ ∀ H', Same H H' → Q (.bl (ratB xs)) H') ∨
  ∃ (x : V) (n : String), vs = [x] ∧ Srt H x n ∧ n ≠ "tuple" ∧ Q (.bl false) H
theorem ok_is_ratio_in (T : Facts K mg) : FnOk P w K mg base CX0 4 T.f_is_ratio_in T.fd_is_ratio_in ["value"] spRatIn := by
  have G_are_short : FnOk P w K mg base CX0 3 T.f_are_short T.fd_are_short ["value"] spAreShort := ok_are_short T
  have G_is_pair_of_ratio : FnOk P w K mg base CX0 1 T.f_is_pair_of_ratio T.fd_is_pair_of_ratio ["value"] (spPair K) := ok_is_pair_of_ratio T
  refine T.F_is_ratio_in.ok sc_is_ratio_in (fun vs H Q E h => ?_) (fun cdv A outer s H vs Q E hr h => ?_)
  · rcases h with ⟨a, xs, rfl, _⟩ | ⟨x, n, rfl, _⟩ <;> rfl
  · refine ⟨_, (PSs.nox (pss_one (ps_ret (pe_and (pe_call G_are_short hr (by rfl) T.g_are_short T.F_are_short.kp T.b_are_short .nil pass0 (pa_cons (pv 0) pa_nil)) (pe_and (pe_cmpR op_eq (pe_callB call_len_seq (by rfl) T.z_len (by decide +kernel) (pa_cons (pv 0) pa_nil)) pe_int (nomark _)) (pe_one (pe_call G_is_pair_of_ratio (hr.mono (by decide)) (by rfl) T.g_is_pair_of_ratio T.F_is_pair_of_ratio.kp T.b_is_pair_of_ratio .nil pass0 (pa_cons (pv 0) pa_nil)))))))), ?_⟩
    rcases h with ⟨a, xs, rfl, hx, hl, hs, q⟩ | ⟨x, n, rfl, hx, hn, q⟩
    · refine ⟨.ref a, rfl, .inl ⟨a, xs, rfl, hx, hl, hs, fun H1 s1 => ⟨xs.all shV, rfl, ?_⟩⟩⟩
      have h1 := s1 _ _ hx
      cases ca : xs.all shV with
      | false =>
        have e : ratB xs = false := by
          unfold ratB
          rw [ca]
          rfl
        rw [e] at q
        exact iteF (q H1 s1)
      | true =>
        refine iteT ⟨.ref a, rfl, a, xs, rfl, .inr (SqT.of h1), rfl, _, rfl, ?_⟩
        by_cases c2 : xs.length = 2
        · rw [c2, decide_eq_true (show V.int ((2 : Nat) : Int) = V.int 2 from rfl)]
          obtain ⟨x, y, rfl⟩ : ∃ x y, xs = [x, y] := by
            match xs, c2 with
            | [x, y], _ => exact ⟨x, y, rfl⟩
          have cx : shV x = true ∧ shV y = true := by
            rw [List.all_cons, List.all_cons, List.all_nil, Bool.and_true, Bool.and_eq_true] at ca
            exact ca
          obtain ⟨u, rfl⟩ : ∃ u, x = .int u := by
            cases x with
            | int u => exact ⟨u, rfl⟩
            | _ => cases (show false = true from cx.1)
          obtain ⟨v, rfl⟩ : ∃ v, y = .int v := by
            cases y with
            | int u => exact ⟨u, rfl⟩
            | _ => cases (show false = true from cx.2)
          refine iteT ⟨.ref a, rfl, a, u, v, rfl, SqT.of h1, ?_⟩
          have e : ratB [.int u, .int v] = pairB u v := by
            unfold ratB
            rw [ca]
            rfl
          rw [e] at q
          exact q H1 s1
        · have e : ratB xs = false := by
            unfold ratB
            rw [ca, decide_eq_false c2]
            rfl
          rw [e] at q
          rw [decide_eq_false fun z => c2 (by have := V.int.inj z; omega)]
          exact iteF (q H1 s1)
    · refine ⟨x, rfl, .inr ⟨x, n, rfl, hx, hn, false, rfl, iteF q⟩⟩
end
end K00

set_option Elab.async false
set_option linter.all false
set_option maxRecDepth 100000
set_option maxHeartbeats 4000000
namespace K00
open PySem PySem.Spec PyProof.Rows L2 MyR
/-- a ratio of at most sixty digits -/
def RatOk (u v : Int) : Prop := shV (.int u) = true ∧ shV (.int v) = true ∧ 0 < v ∧ Nat.gcd u.natAbs v.natAbs = 1
theorem RatOk.ratB {u v : Int} (h : RatOk u v) : ratB [.int u, .int v] = true := by
  obtain ⟨h1, h2, h3, h4⟩ := h
  show (([V.int u, V.int v].all shV) && (decide (2 = 2) && pairB u v)) = true
  rw [List.all_cons, List.all_cons, List.all_nil, h1, h2]
  unfold pairB
  rw [decide_eq_true h3, decide_eq_true h4]
  rfl
theorem sh_sm {x : Int} (h : shV (.int x) = true) : sm x := by
  have h' : (decide (-big < x) && decide (x < big)) = true := h
  rw [Bool.and_eq_true] at h'
  have a := of_decide_eq_true h'.1
  have b := of_decide_eq_true h'.2
  have c : x.natAbs < big.toNat := by
    have : (0 : Int) ≤ big := by decide
    omega
  exact Nat.lt_trans c (by decide +kernel)
theorem RatOk.sms {u v a b : Int} (h : RatOk u v) (k : RatOk a b) : sm u ∧ sm v ∧ sm a ∧ sm b := ⟨sh_sm h.1, sh_sm h.2.1, sh_sm k.1, sh_sm k.2.1⟩
section
variable {P : Program} {w : World} {K : PySem.W.Frag} {mg : Str → Option Value} {base : Heap}
/-- of a ratio -/
def spReqRat : Sp := fun vs H Q _ => ∃ (a : Addr) (u v : Int), vs = [.ref a] ∧ H a = some (tup2 (u, v)) ∧ RatOk u v ∧ ∀ H', Same H H' → Q .non H'
theorem two_srt {H : Hp} {u v : Int} : ∀ y ∈ [V.int u, V.int v], ∃ n, Srt H y n := fun y hy => by
  rcases List.mem_cons.mp hy with rfl | hy
  · exact ⟨_, .int u⟩
  · rw [List.mem_singleton.mp hy]
    exact ⟨_, .int v⟩
theorem ok_require_ratio (T : Facts K mg) : FnOk P w K mg base CX0 5 T.f_require_ratio T.fd_require_ratio ["value"] spReqRat := by
  have G_is_ratio_in : FnOk P w K mg base CX0 4 T.f_is_ratio_in T.fd_is_ratio_in ["value"] spRatIn := ok_is_ratio_in T
  refine T.F_require_ratio.ok sc_require_ratio (fun vs H Q E h => ?_) (fun cdv A outer s H vs Q E hr h => ?_)
  · obtain ⟨a, u, v, rfl, _⟩ := h
    rfl
  · obtain ⟨a, u, v, rfl, ha, hr2, q⟩ := h
    refine ⟨_, (PSs.nox (pss_one (ps_if (pt_not (pt_val (pe_call G_is_ratio_in hr (by rfl) T.g_is_ratio_in T.F_is_ratio_in.kp T.b_is_ratio_in .nil pass0 (pa_cons (pv 0) pa_nil))))
      (pss_one ps_never)
      pss_nil))), ?_⟩
    refine ⟨.ref a, rfl, .inl ⟨a, _, rfl, ha, (by show 2 ≤ 1000; decide), two_srt, fun H1 s1 => ⟨true, ?_, iteF (q H1 s1)⟩⟩⟩
    rw [hr2.ratB]
def spReqTwo : Sp := fun vs H Q _ => ∃ (a b : Addr) (a0 a1 b0 b1 : Int), vs = [.ref a, .ref b] ∧ H a = some (tup2 (a0, a1)) ∧ H b = some (tup2 (b0, b1)) ∧ RatOk a0 a1 ∧ RatOk b0 b1 ∧ ∀ H', Same H H' → Q .non H'
theorem ok_require_two (T : Facts K mg) : FnOk P w K mg base CX0 6 T.f_require_two T.fd_require_two ["one", "other"] spReqTwo := by
  have G_require_ratio : FnOk P w K mg base CX0 5 T.f_require_ratio T.fd_require_ratio ["value"] spReqRat := ok_require_ratio T
  refine T.F_require_two.ok sc_require_two (fun vs H Q E h => ?_) (fun cdv A outer s H vs Q E hr h => ?_)
  · obtain ⟨a, b, a0, a1, b0, b1, rfl, _⟩ := h
    rfl
  · obtain ⟨a, b, a0, a1, b0, b1, rfl, ha, hb, ra, rb, q⟩ := h
    refine ⟨_, (PSs.nox (pss_cons (ps_expr (pe_call G_require_ratio hr (by rfl) T.g_require_ratio T.F_require_ratio.kp T.b_require_ratio .nil pass0 (pa_cons (pv 0) pa_nil)))
    (pss_one (ps_expr (pe_call G_require_ratio hr (by rfl) T.g_require_ratio T.F_require_ratio.kp T.b_require_ratio .nil pass0 (pa_cons (pv 1) pa_nil)))))), ?_⟩
    exact ⟨_, rfl, a, a0, a1, rfl, ha, ra, fun H1 s1 => ⟨_, rfl, b, b0, b1, rfl, s1 _ _ hb, rb, fun H2 s2 => q H2 (s1.trans s2)⟩⟩
/-- an operation on two ratios -/
def spP (nm dn : F4) : Sp := fun vs H Q _ => ∃ (a b : Addr) (a0 a1 b0 b1 : Int), vs = [.ref a, .ref b] ∧ H a = some (tup2 (a0, a1)) ∧ H b = some (tup2 (b0, b1)) ∧ RatOk a0 a1 ∧ RatOk b0 b1 ∧ dn a0 a1 b0 b1 ≠ 0 ∧
  ∀ p H', Same H H' → H p = none → H' p = some (tup2 (low (nm a0 a1 b0 b1) (dn a0 a1 b0 b1))) → Q (.ref p) H'
theorem ok_plus (T : Facts K mg) : FnOk P w K mg base CX0 7 T.f_plus T.fd_plus ["one", "other"] (spP nPlus dMul) := by
  have G_require_two : FnOk P w K mg base CX0 6 T.f_require_two T.fd_require_two ["one", "other"] spReqTwo := ok_require_two T
  have G_plus_of : FnOk P w K mg base CX0 2 T.f_plus_of T.fd_plus_of ["one", "other"] (spQ K nPlus dMul) := ok_plus_of T
  refine T.F_plus.ok sc_plus (fun vs H Q E h => ?_) (fun cdv A outer s H vs Q E hr h => ?_)
  · obtain ⟨a, b, a0, a1, b0, b1, rfl, _⟩ := h
    rfl
  · obtain ⟨a, b, a0, a1, b0, b1, rfl, ha, hb, ra, rb, hd, q⟩ := h
    refine ⟨_, (PSs.nox (pss_cons (ps_expr (pe_call G_require_two hr (by rfl) T.g_require_two T.F_require_two.kp T.b_require_two .nil pass0 (pa_cons (pv 0) (pa_cons (pv 1) pa_nil))))
    (pss_one (ps_ret (pe_call G_plus_of (hr.mono (by decide)) (by rfl) T.g_plus_of T.F_plus_of.kp T.b_plus_of .nil pass0 (pa_cons (pv 0) (pa_cons (pv 1) pa_nil))))))), ?_⟩
    exact ⟨_, rfl, _, rfl, a, b, a0, a1, b0, b1, rfl, ha, hb, ra, rb, fun H1 s1 => ⟨_, rfl, _, rfl, a, b, a0, a1, b0, b1, rfl, SqT.of (s1 _ _ ha), SqT.of (s1 _ _ hb), ra.sms rb, hd, fun p hp => q p _ (s1.trans (same_upd0 hp)) (Same.free s1 hp) upd_same⟩⟩
theorem ok_minus (T : Facts K mg) : FnOk P w K mg base CX0 7 T.f_minus T.fd_minus ["one", "other"] (spP nMinus dMul) := by
  have G_require_two : FnOk P w K mg base CX0 6 T.f_require_two T.fd_require_two ["one", "other"] spReqTwo := ok_require_two T
  have G_minus_of : FnOk P w K mg base CX0 2 T.f_minus_of T.fd_minus_of ["one", "other"] (spQ K nMinus dMul) := ok_minus_of T
  refine T.F_minus.ok sc_minus (fun vs H Q E h => ?_) (fun cdv A outer s H vs Q E hr h => ?_)
  · obtain ⟨a, b, a0, a1, b0, b1, rfl, _⟩ := h
    rfl
  · obtain ⟨a, b, a0, a1, b0, b1, rfl, ha, hb, ra, rb, hd, q⟩ := h
    refine ⟨_, (PSs.nox (pss_cons (ps_expr (pe_call G_require_two hr (by rfl) T.g_require_two T.F_require_two.kp T.b_require_two .nil pass0 (pa_cons (pv 0) (pa_cons (pv 1) pa_nil))))
    (pss_one (ps_ret (pe_call G_minus_of (hr.mono (by decide)) (by rfl) T.g_minus_of T.F_minus_of.kp T.b_minus_of .nil pass0 (pa_cons (pv 0) (pa_cons (pv 1) pa_nil))))))), ?_⟩
    exact ⟨_, rfl, _, rfl, a, b, a0, a1, b0, b1, rfl, ha, hb, ra, rb, fun H1 s1 => ⟨_, rfl, _, rfl, a, b, a0, a1, b0, b1, rfl, SqT.of (s1 _ _ ha), SqT.of (s1 _ _ hb), ra.sms rb, hd, fun p hp => q p _ (s1.trans (same_upd0 hp)) (Same.free s1 hp) upd_same⟩⟩
theorem ok_times (T : Facts K mg) : FnOk P w K mg base CX0 7 T.f_times T.fd_times ["one", "other"] (spP nTimes dMul) := by
  have G_require_two : FnOk P w K mg base CX0 6 T.f_require_two T.fd_require_two ["one", "other"] spReqTwo := ok_require_two T
  have G_times_of : FnOk P w K mg base CX0 2 T.f_times_of T.fd_times_of ["one", "other"] (spQ K nTimes dMul) := ok_times_of T
  refine T.F_times.ok sc_times (fun vs H Q E h => ?_) (fun cdv A outer s H vs Q E hr h => ?_)
  · obtain ⟨a, b, a0, a1, b0, b1, rfl, _⟩ := h
    rfl
  · obtain ⟨a, b, a0, a1, b0, b1, rfl, ha, hb, ra, rb, hd, q⟩ := h
    refine ⟨_, (PSs.nox (pss_cons (ps_expr (pe_call G_require_two hr (by rfl) T.g_require_two T.F_require_two.kp T.b_require_two .nil pass0 (pa_cons (pv 0) (pa_cons (pv 1) pa_nil))))
    (pss_one (ps_ret (pe_call G_times_of (hr.mono (by decide)) (by rfl) T.g_times_of T.F_times_of.kp T.b_times_of .nil pass0 (pa_cons (pv 0) (pa_cons (pv 1) pa_nil))))))), ?_⟩
    exact ⟨_, rfl, _, rfl, a, b, a0, a1, b0, b1, rfl, ha, hb, ra, rb, fun H1 s1 => ⟨_, rfl, _, rfl, a, b, a0, a1, b0, b1, rfl, SqT.of (s1 _ _ ha), SqT.of (s1 _ _ hb), ra.sms rb, hd, fun p hp => q p _ (s1.trans (same_upd0 hp)) (Same.free s1 hp) upd_same⟩⟩
theorem ok_over (T : Facts K mg) : FnOk P w K mg base CX0 7 T.f_over T.fd_over ["one", "other"] (spP nOver dOver) := by
  have G_require_two : FnOk P w K mg base CX0 6 T.f_require_two T.fd_require_two ["one", "other"] spReqTwo := ok_require_two T
  have G_over_of : FnOk P w K mg base CX0 2 T.f_over_of T.fd_over_of ["one", "other"] (spQ K nOver dOver) := ok_over_of T
  refine T.F_over.ok sc_over (fun vs H Q E h => ?_) (fun cdv A outer s H vs Q E hr h => ?_)
  · obtain ⟨a, b, a0, a1, b0, b1, rfl, _⟩ := h
    rfl
  · obtain ⟨a, b, a0, a1, b0, b1, rfl, ha, hb, ra, rb, hd, q⟩ := h
    refine ⟨_, (PSs.nox (pss_cons (ps_expr (pe_call G_require_two hr (by rfl) T.g_require_two T.F_require_two.kp T.b_require_two .nil pass0 (pa_cons (pv 0) (pa_cons (pv 1) pa_nil))))
    (pss_cons (ps_if (pt_cmpR op_eq (pe_ix ix_tup (pv 1) pe_int (fun _ _ => rfl)) pe_int (nomark _))
      (pss_one ps_never)
      pss_nil)
    (pss_one (ps_ret (pe_call G_over_of (hr.mono (by decide)) (by rfl) T.g_over_of T.F_over_of.kp T.b_over_of .nil pass0 (pa_cons (pv 0) (pa_cons (pv 1) pa_nil)))))))), ?_⟩
    refine ⟨_, rfl, _, rfl, a, b, a0, a1, b0, b1, rfl, ha, hb, ra, rb, fun H1 s1 => ⟨_, rfl, b, _, 0, _, rfl, rfl, SqT.of (s1 _ _ hb), ix0, rfl, _, rfl, ?_⟩⟩
    have hb0 : b0 ≠ 0 := fun e => hd (by rw [e]; exact Int.mul_zero a1)
    rw [decide_eq_false fun z => hb0 (V.int.inj z)]
    exact iteF ⟨_, rfl, _, rfl, a, b, a0, a1, b0, b1, rfl, SqT.of (s1 _ _ ha), SqT.of (s1 _ _ hb), ra.sms rb, hd, fun p hp => q p _ (s1.trans (same_upd0 hp)) (Same.free s1 hp) upd_same⟩
def spC : Sp := fun vs H Q _ => ∃ (a b : Addr) (a0 a1 b0 b1 : Int), vs = [.ref a, .ref b] ∧ H a = some (tup2 (a0, a1)) ∧ H b = some (tup2 (b0, b1)) ∧ RatOk a0 a1 ∧ RatOk b0 b1 ∧ ∀ H', Same H H' → Q (.int (cmpI (a0 * b1) (b0 * a1))) H'
theorem ok_compare (T : Facts K mg) : FnOk P w K mg base CX0 7 T.f_compare T.fd_compare ["one", "other"] spC := by
  have G_require_two : FnOk P w K mg base CX0 6 T.f_require_two T.fd_require_two ["one", "other"] spReqTwo := ok_require_two T
  have G_compared_of : FnOk P w K mg base CX0 1 T.f_compared_of T.fd_compared_of ["one", "other"] (spCmp K) := ok_compared_of T
  refine T.F_compare.ok sc_compare (fun vs H Q E h => ?_) (fun cdv A outer s H vs Q E hr h => ?_)
  · obtain ⟨a, b, a0, a1, b0, b1, rfl, _⟩ := h
    rfl
  · obtain ⟨a, b, a0, a1, b0, b1, rfl, ha, hb, ra, rb, q⟩ := h
    refine ⟨_, (PSs.nox (pss_cons (ps_expr (pe_call G_require_two hr (by rfl) T.g_require_two T.F_require_two.kp T.b_require_two .nil pass0 (pa_cons (pv 0) (pa_cons (pv 1) pa_nil))))
    (pss_one (ps_ret (pe_call G_compared_of (hr.mono (by decide)) (by rfl) T.g_compared_of T.F_compared_of.kp T.b_compared_of .nil pass0 (pa_cons (pv 0) (pa_cons (pv 1) pa_nil))))))), ?_⟩
    exact ⟨_, rfl, _, rfl, a, b, a0, a1, b0, b1, rfl, ha, hb, ra, rb, fun H1 s1 => ⟨_, rfl, _, rfl, a, b, a0, a1, b0, b1, rfl, SqT.of (s1 _ _ ha), SqT.of (s1 _ _ hb), ra.sms rb, q H1 s1⟩⟩
/-! ### asked with any value -/
theorem ok_is_ratio (T : Facts K mg) : FnOk P w K mg base CX0 5 T.f_is_ratio T.fd_is_ratio ["value"] spRatIn := by
  have G_is_ratio_in : FnOk P w K mg base CX0 4 T.f_is_ratio_in T.fd_is_ratio_in ["value"] spRatIn := ok_is_ratio_in T
  refine T.F_is_ratio.ok sc_is_ratio (fun vs H Q E h => ?_) (fun cdv A outer s H vs Q E hr h => ?_)
  · rcases h with ⟨a, xs, rfl, _⟩ | ⟨x, n, rfl, _⟩ <;> rfl
  · refine ⟨_, (PSs.nox (pss_one (ps_ret (pe_call G_is_ratio_in hr (by rfl) T.g_is_ratio_in T.F_is_ratio_in.kp T.b_is_ratio_in .nil pass0 (pa_cons (pv 0) pa_nil))))), ?_⟩
    rcases h with ⟨a, xs, rfl, hx, hl, hs, q⟩ | ⟨x, n, rfl, hx, hn, q⟩
    · exact ⟨_, rfl, .inl ⟨a, xs, rfl, hx, hl, hs, q⟩⟩
    · exact ⟨_, rfl, .inr ⟨x, n, rfl, hx, hn, q⟩⟩
theorem ok_is_integer (T : Facts K mg) : FnOk P w K mg base CX0 3 T.f_is_integer T.fd_is_integer ["value"] spShort := by
  have G_is_short : FnOk P w K mg base CX0 2 T.f_is_short T.fd_is_short ["value"] spShort := ok_is_short T
  refine T.F_is_integer.ok sc_is_integer (fun vs H Q E h => ?_) (fun cdv A outer s H vs Q E hr h => ?_)
  · obtain ⟨x, n, rfl, _⟩ := h
    rfl
  · obtain ⟨x, n, rfl, hx, q⟩ := h
    refine ⟨_, (PSs.nox (pss_one (ps_ret (pe_call G_is_short hr (by rfl) T.g_is_short T.F_is_short.kp T.b_is_short .nil pass0 (pa_cons (pv 0) pa_nil))))), ?_⟩
    exact ⟨_, rfl, x, n, rfl, hx, q⟩
def spLowest : Sp := fun vs H Q _ => ∃ t b : Int, vs = [.int t, .int b] ∧ shV (.int t) = true ∧ shV (.int b) = true ∧ b ≠ 0 ∧ ∀ p, H p = none → Q (.ref p) (upd H p (tup2 (low t b)))
theorem ok_lowest (T : Facts K mg) : FnOk P w K mg base CX0 4 T.f_lowest T.fd_lowest ["top", "bottom"] spLowest := by
  have G_require_short : FnOk P w K mg base CX0 3 T.f_require_short T.fd_require_short ["value"] spReqShort := ok_require_short T
  have G_lowest_of : FnOk P w K mg base CX0 1 T.f_lowest_of T.fd_lowest_of ["top", "bottom"] spLow := ok_lowest_of T
  refine T.F_lowest.ok sc_lowest (fun vs H Q E h => ?_) (fun cdv A outer s H vs Q E hr h => ?_)
  · obtain ⟨t, b, rfl, _⟩ := h
    rfl
  · obtain ⟨t, b, rfl, ht, hb, h0, q⟩ := h
    refine ⟨_, (PSs.nox (pss_cons (ps_expr (pe_call G_require_short hr (by rfl) T.g_require_short T.F_require_short.kp T.b_require_short .nil pass0 (pa_cons (pv 0) pa_nil)))
    (pss_cons (ps_expr (pe_call G_require_short hr (by rfl) T.g_require_short T.F_require_short.kp T.b_require_short .nil pass0 (pa_cons (pv 1) pa_nil)))
    (pss_cons (ps_if (pt_cmpR op_eq (pv 1) pe_int (nomark _))
      (pss_one ps_never)
      pss_nil)
    (pss_one (ps_ret (pe_call G_lowest_of (hr.mono (by decide)) (by rfl) T.g_lowest_of T.F_lowest_of.kp T.b_lowest_of .nil pass0 (pa_cons (pv 0) (pa_cons (pv 1) pa_nil))))))))), ?_⟩
    refine ⟨_, rfl, t, rfl, ht, _, rfl, b, rfl, hb, _, rfl, rfl, _, rfl, ?_⟩
    rw [decide_eq_false fun z => h0 (V.int.inj z)]
    exact iteF ⟨_, rfl, _, rfl, t, b, rfl, h0, Nat.lt_trans (sh_sm hb) (Nat.pow_lt_pow_right (by decide) (by decide)), q⟩
/-! ### roots -/
def optV : Option Int → V
  | some r => .int r
  | none => .non
def spRoot : Sp := fun vs H Q _ => ∃ n : Int, vs = [.int n] ∧ sm n ∧ Q (optV (rt n)) H
theorem ok_whole_root (T : Facts K mg) : FnOk P w K mg base CX0 1 T.f_whole_root T.fd_whole_root ["number"] spRoot := by
  refine T.F_whole_root.ok sc_whole_root (fun vs H Q E h => ?_) (fun cdv A outer s H vs Q E hr h => ?_)
  · obtain ⟨n, rfl, _⟩ := h
    rfl
  · obtain ⟨n, rfl, hn, q⟩ := h
    refine ⟨_, (PSs.nox (pss_cons (ps_if (pt_cmpR op_lt (pv 0) pe_int (nomark _))
      (pss_one (ps_ret pe_non))
      pss_nil)
    (pss_cons (ps_set (i := 1) sc_whole_root.nd rfl (.inl rfl) (pe_callBfun cr_isqrt (by rfl) T.m_isqrt (pa_cons (pv 0) pa_nil)))
    (pss_one (ps_ret (pe_ifExp (pt_cmpR op_eq (pe_op op_mulW (pv 1) (pv 1)) (pv 0) (nomark _)) (pv 1) pe_non)))))), ?_⟩
    refine ⟨_, rfl, _, _, rfl, rfl, _, rfl, ?_⟩
    by_cases c : n < 0
    · rw [decide_eq_true c]
      rw [rt_neg c] at q
      exact iteT q
    · rw [decide_eq_false c]
      have h0 : 0 ≤ n := by omega
      refine iteF ⟨_, rfl, n, rfl, h0, ?_, fun r r1 r2 => ?_⟩
      · have e : n.toNat < 2 ^ 400 := by
          have e1 : n.toNat = n.natAbs := by omega
          rw [e1]
          exact hn
        exact Nat.lt_trans (PySem.Flt.log2_lt_of (by decide) e) (by decide)
      · rw [rt_of h0 r1 r2] at q
        have hr1 : sm (r : Int) := by
          have : r ≤ r * r := Nat.le_mul_self r
          show r < 2 ^ 400
          have e : n.natAbs < 2 ^ 400 := hn
          omega
        refine ⟨_, rfl, _, rfl, _, _, rfl, rfl, sm_mul hr1 hr1, _, rfl, rfl, _, rfl, ?_⟩
        by_cases c2 : (r : Int) * r = n
        · rw [decide_eq_true (show V.int ((r : Int) * r) = V.int n by rw [c2])]
          rw [if_pos c2] at q
          exact iteT ⟨_, rfl, q⟩
        · rw [decide_eq_false fun z => c2 (V.int.inj z)]
          rw [if_neg c2] at q
          exact iteF q
end
end K00

set_option Elab.async false
set_option linter.all false
set_option maxRecDepth 100000
set_option maxHeartbeats 4000000
namespace K00
open PySem PySem.Spec PyProof.Rows L2 MyR
abbrev dice (x y z : Int) : HO := .lst [.int x, .int y, .int z]
/-- all but the dice is as it was -/
def Sx (a : Addr) (H H' : Hp) : Prop := ∀ b o, b ≠ a → H b = some o → H' b = some o
def Dc (H : Hp) (a : Addr) : Prop := ∃ x y z, H a = some (dice x y z)
theorem Sx.refl (a : Addr) (H : Hp) : Sx a H H := fun _ _ _ h => h
theorem Sx.trans {a : Addr} {H H1 H2 : Hp} (s : Sx a H H1) (t : Sx a H1 H2) : Sx a H H2 := fun b o n h => t b o n (s b o n h)
theorem Sx.of {a : Addr} {H H' : Hp} (s : Same H H') : Sx a H H' := fun b o _ h => s b o h
theorem Sx.upd {a : Addr} {H : Hp} {o : HO} : Sx a H (upd H a o) := fun b u n h => by
  rw [upd_ne n]
  exact h
theorem Dc.same {a : Addr} {H H' : Hp} (d : Dc H a) (s : Same H H') : Dc H' a := by
  obtain ⟨x, y, z, e⟩ := d
  exact ⟨x, y, z, s _ _ e⟩
theorem Dc.ne {a p : Addr} {H : Hp} (d : Dc H a) (n : H p = none) : p ≠ a := fun e => by
  obtain ⟨x, y, z, h⟩ := d
  rw [e, h] at n
  cases n
theorem Sx.free {a p : Addr} {H H' : Hp} (s : Sx a H H') (n : H' p = none) (ne : p ≠ a) : H p = none := by
  cases q : H p with
  | none => rfl
  | some o =>
    rw [s p o ne q] at n
    cases n
theorem Sx.seqT {K : PySem.W.Frag} {a b : Addr} {H H' : Hp} {xs : List V} (s : Sx a H H') (h : H b = some (.tup xs)) (ne : b ≠ a) : SqT K H' b xs := SqT.of (s b _ ne h)
theorem script_Sx {K : PySem.W.Frag} {d a : Addr} {H H' : Hp} {o : HO} {xs : List V} (s : Sx d (upd H d o) H') (n : H d = none) (h : SqL K H a xs) : SqL K H' a xs := by
  rcases h with (h | ⟨u, h⟩) | h
  · have ne : a ≠ d := ne_of_none h n
    exact .inl (.inl (s a _ ne (by rw [upd_ne ne]; exact h)))
  · have ne : a ≠ d := ne_of_none h n
    exact .inl (.inr ⟨u, s a _ ne (by rw [upd_ne ne]; exact h)⟩)
  · exact .inr h
section
variable {P : Program} {w : World} {K : PySem.W.Frag} {mg : Str → Option Value} {base : Heap}
theorem cp16 : CPow 10 16 := ⟨by decide, by decide, by decide⟩
theorem cp60 : CPow 10 60 := ⟨by decide, by decide, by decide⟩
theorem cw60 : CMulW (10 ^ Int.toNat 60) (10 ^ Int.toNat 60) := by
  unfold CMulW
  decide +kernel
theorem pos60 : (0 : Int) < 10 ^ Int.toNat 60 * 10 ^ Int.toNat 60 := by decide +kernel
theorem pos_m : (0 : Int) < 1152921504606846697 := by decide
theorem sz3 : 3 ≤ sizeLine := by decide
def spDice (K : PySem.W.Frag) : Sp := fun vs H Q _ => ∃ (a : Addr) (ns : List Int) (k : Nat), vs = [.ref a, .int k] ∧ SqL K H a (ns.map V.int) ∧ ∀ p x y z, H p = none → Q (.ref p) (upd H p (dice x y z))
theorem ok_law_dice (T : Facts K mg) : FnOk P w K mg base CX0 1 T.f_law_dice T.fd_law_dice ["_law_script", "_law_spot"] (spDice K) := by
  refine T.F_law_dice.ok sc_law_dice (fun vs H Q E h => ?_) (fun cdv A outer s H vs Q E hr h => ?_)
  · obtain ⟨a, ns, k, rfl, _⟩ := h
    rfl
  · obtain ⟨a, ns, k, rfl, hS, q⟩ := h
    refine ⟨_, (PSs.nox (pss_cons (ps_set (i := 2) sc_law_dice.nd rfl (.inl rfl) (pe_ifExp (pt_cmpR op_lt (pv 1) (pe_callB call_len_seq (by rfl) T.z_len (by decide +kernel) (pa_cons (pv 0) pa_nil)) (nomark _)) (pe_callTy call_int1 (by rfl) T.z_int (by decide +kernel) (pa_cons (pe_ix ix_list (pv 0) (pv 1) (fun _ _ => rfl)) pa_nil)) (pe_op op_add (pe_op op_mul pe_int (pv 1)) pe_int)))
    (pss_cons (ps_set (i := 3) sc_law_dice.nd rfl (.inl rfl) (pe_op op_mod (pe_callB (call_max2 (by rfl)) (by rfl) T.z_max (by decide +kernel) (pa_cons pe_int (pa_cons (pe_op op_sub (pe_callB call_abs (by rfl) T.z_abs (by decide +kernel) (pa_cons (pv 2) pa_nil)) (pe_op op_pow pe_int pe_int)) pa_nil))) (pe_op op_mulW (pe_op op_pow pe_int pe_int) (pe_op op_pow pe_int pe_int))))
    (pss_one (ps_ret (pe_lst (pa_cons (pv 3) (pa_cons (pe_op op_add (pe_op op_add (pe_op op_add (pe_op op_mul (pe_op op_mod (pe_callB call_abs (by rfl) T.z_abs (by decide +kernel) (pa_cons (pv 2) pa_nil)) pe_int) pe_int) (pe_op op_mul pe_int (pv 1))) (pe_op op_mul pe_int (pe_callTy call_int1 (by rfl) T.z_int (by decide +kernel) (pa_cons (pe_cmpR op_lt (pv 2) pe_int (nomark _)) pa_nil)))) pe_int) (pa_cons pe_int pa_nil))))))))), ?_⟩
    refine ⟨.int k, rfl, .ref a, rfl, a, ns.map V.int, rfl, .inl hS, k, _, rfl, rfl, _, rfl, ?_⟩
    rw [List.length_map]
    by_cases h1 : (k : Int) < (ns.length : Int)
    · rw [decide_eq_true h1]
      have hj : k < ns.length := by omega
      refine iteT ⟨.ref a, rfl, .int k, rfl, a, ns.map V.int, k, .int ns[k], rfl, rfl, hS, atI_nat (by rw [List.getElem?_map, List.getElem?_eq_getElem hj]; rfl), .inl ⟨_, rfl, ?_⟩⟩
      refine ⟨.int ns[k], rfl, _, rfl, 10, 16, rfl, rfl, cp16, _, _, rfl, rfl, 0, _, rfl, 10, 60, rfl, rfl, cp60, 10, 60, rfl, rfl, cp60, _, _, rfl, rfl, cw60, _, _, rfl, rfl, pos60, ?_⟩
      refine ⟨_, rfl, .int ns[k], rfl, _, rfl, _, _, rfl, rfl, pos_m, _, _, rfl, rfl, .inr ⟨by decide, by decide⟩, .int k, rfl, _, _, rfl, rfl, .inl ⟨by decide, by decide⟩, _, _, rfl, rfl, .int ns[k], rfl, _, _, rfl, rfl, .inr ⟨_, rfl, _, _, rfl, rfl, .inl ⟨by decide, by decide⟩, _, _, rfl, rfl, _, _, rfl, rfl, ?_⟩⟩
      exact ⟨sz3, fun p hp => q p _ _ _ hp⟩
    · rw [decide_eq_false h1]
      refine iteF ⟨.int k, rfl, _, _, rfl, rfl, .inl ⟨by decide, by decide⟩, _, _, rfl, rfl, ?_⟩
      refine ⟨_, rfl, _, rfl, 10, 16, rfl, rfl, cp16, _, _, rfl, rfl, 0, _, rfl, 10, 60, rfl, rfl, cp60, 10, 60, rfl, rfl, cp60, _, _, rfl, rfl, cw60, _, _, rfl, rfl, pos60, ?_⟩
      refine ⟨_, rfl, _, rfl, _, rfl, _, _, rfl, rfl, pos_m, _, _, rfl, rfl, .inr ⟨by decide, by decide⟩, .int k, rfl, _, _, rfl, rfl, .inl ⟨by decide, by decide⟩, _, _, rfl, rfl, _, rfl, _, _, rfl, rfl, .inr ⟨_, rfl, _, _, rfl, rfl, .inl ⟨by decide, by decide⟩, _, _, rfl, rfl, _, _, rfl, rfl, ?_⟩⟩
      exact ⟨sz3, fun p hp => q p _ _ _ hp⟩
def spRoll : Sp := fun vs H Q _ => ∃ (a : Addr) (x y z n : Int), vs = [.ref a, .int n] ∧ H a = some (dice x y z) ∧ 0 < n ∧ n.natAbs.log2 < 9000 ∧ ∀ r x' z', 0 ≤ r → r < n → Q (.int r) (upd H a (dice x' y z'))
theorem ok_law_roll (T : Facts K mg) : FnOk P w K mg base CX0 1 T.f_law_roll T.fd_law_roll ["_law_dice_here", "_law_total"] spRoll := by
  refine T.F_law_roll.ok sc_law_roll (fun vs H Q E h => ?_) (fun cdv A outer s H vs Q E hr h => ?_)
  · obtain ⟨a, x, y, z, n, rfl, _⟩ := h
    rfl
  · obtain ⟨a, x, y, z, n, rfl, hd, h0, h1, q⟩ := h
    have hS : SqL K H a [.int x, .int y, .int z] := SqL.of hd
    refine ⟨_, (PSs.nox (pss_cons (ps_if (pt_cmpR op_gt (pe_ix ix_list (pv 0) pe_int (fun _ _ => rfl)) pe_int (nomark _))
      (pss_cons (ps_set (i := 2) sc_law_roll.nd rfl (.inl rfl) (pe_op op_mod (pe_callTy call_int1 (by rfl) T.z_int (by decide +kernel) (pa_cons (pe_ix ix_list (pv 0) pe_int (fun _ _ => rfl)) pa_nil)) (pv 1)))
      (pss_cons (ps_asg (pe_op op_fdivW (pe_ix ix_list (pv 0) pe_int (fun _ _ => rfl)) (pv 1)) (pg_sub (pv 0) pe_int set_list))
      (pss_one (ps_ret (pv 2)))))
      pss_nil)
    (pss_cons (ps_asg (pe_op op_add (pe_ix ix_list (pv 0) pe_int (fun _ _ => rfl)) pe_int) (pg_sub (pv 0) pe_int set_list))
    (pss_cons (ps_set (i := 3) sc_law_roll.nd rfl (.inl rfl) (pe_op op_mod (pe_callTy call_int1 (by rfl) T.z_int (by decide +kernel) (pa_cons (pe_op op_add (pe_ix ix_list (pv 0) pe_int (fun _ _ => rfl)) (pe_op op_mul pe_int (pe_ix ix_list (pv 0) pe_int (fun _ _ => rfl)))) pa_nil)) pe_int))
    (pss_cons (ps_set (i := 4) sc_law_roll.nd rfl (.inl rfl) (pe_op op_add (pe_op op_mul (pe_op op_mod (pe_callTy call_int1 (by rfl) T.z_int (by decide +kernel) (pa_cons (pe_op op_add (pe_op op_mul (pv 3) (pv 3)) (pe_op op_mul pe_int (pe_ix ix_list (pv 0) pe_int (fun _ _ => rfl)))) pa_nil)) pe_int) pe_int) (pv 3)))
    (pss_one (ps_ret (pe_op op_mod (pe_callTy call_int1 (by rfl) T.z_int (by decide +kernel) (pa_cons (pe_op op_fdivW (pv 4) pe_int) pa_nil)) (pv 1))))))))), ?_⟩
    refine ⟨.ref a, rfl, a, _, 0, .int x, rfl, rfl, hS, atI_nat (j := 0) rfl, x, 0, rfl, rfl, decide (0 < x), rfl, ite2 (fun _ => ?_) (fun _ => ?_)⟩
    · refine ⟨.ref a, rfl, a, _, 0, .int x, rfl, rfl, hS, atI_nat (j := 0) rfl, .inl ⟨x, rfl, .int n, rfl, x, n, rfl, rfl, h0, ?_⟩⟩
      refine ⟨.ref a, rfl, a, _, 0, .int x, rfl, rfl, hS, atI_nat (j := 0) rfl, .int n, rfl, x, n, rfl, rfl, ⟨h0, h1⟩, ?_⟩
      refine ⟨.ref a, rfl, a, _, 0, 0, rfl, rfl, hd, rfl, ?_⟩
      exact ⟨_, rfl, q (x % n) (x / n) z (Int.emod_nonneg _ (by omega)) (Int.emod_lt_of_pos _ h0)⟩
    · refine ⟨.ref a, rfl, a, _, 2, .int z, rfl, rfl, hS, atI_nat (j := 2) rfl, z, 1, rfl, rfl, ?_⟩
      refine ⟨.ref a, rfl, a, _, 2, 2, rfl, rfl, hd, rfl, ?_⟩
      have hd' : (upd H a (dice x y (z + 1))) a = some (dice x y (z + 1)) := upd_same
      have hS' : SqL K (upd H a (dice x y (z + 1))) a [.int x, .int y, .int (z + 1)] := SqL.of hd'
      refine ⟨.ref a, rfl, a, _, 1, .int y, rfl, rfl, hS', atI_nat (j := 1) rfl, .ref a, rfl, a, _, 2, .int (z + 1), rfl, rfl, hS', atI_nat (j := 2) rfl, _, _, rfl, rfl, .inl ⟨by decide, by decide⟩, _, _, rfl, rfl, .inl ⟨_, rfl, _, _, rfl, rfl, (by decide : (0 : Int) < 2305843009213691579), ?_⟩⟩
      have b0 := Int.emod_nonneg (y + 92821991 * (z + 1)) (show (2305843009213691579 : Int) ≠ 0 by decide)
      have b1 := Int.emod_lt_of_pos (y + 92821991 * (z + 1)) (show (0 : Int) < 2305843009213691579 by decide)
      refine ⟨_, rfl, _, rfl, _, _, rfl, rfl, .inl ⟨Int.lt_of_lt_of_le (by decide) b0, Int.lt_trans b1 (by decide)⟩, .ref a, rfl, a, _, 2, .int (z + 1), rfl, rfl, hS', atI_nat (j := 2) rfl, _, _, rfl, rfl, .inl ⟨by decide, by decide⟩, _, _, rfl, rfl, .inl ⟨_, rfl, _, _, rfl, rfl, (by decide : (0 : Int) < 2305843009213692227), _, _, rfl, rfl, .inr ⟨by decide, by decide⟩, _, rfl, _, _, rfl, rfl, ?_⟩⟩
      refine ⟨_, rfl, _, _, rfl, rfl, ⟨by decide, by decide +kernel⟩, .inl ⟨_, rfl, .int n, rfl, _, _, rfl, rfl, h0, ?_⟩⟩
      exact q _ x (z + 1) (Int.emod_nonneg _ (by omega)) (Int.emod_lt_of_pos _ h0)
def spPick (K : PySem.W.Frag) : Sp := fun vs H Q _ => ∃ (a b : Addr) (x y z : Int) (xs : List V), vs = [.ref a, .ref b] ∧ H a = some (dice x y z) ∧ H b = some (.lst xs) ∧ a ≠ b ∧ 0 < xs.length ∧ xs.length < 1000 ∧
  ∀ (i : Nat) v x' z', xs[i]? = some v → Q v (upd H a (dice x' y z'))
theorem ok_law_pick (T : Facts K mg) : FnOk P w K mg base CX0 2 T.f_law_pick T.fd_law_pick ["_law_dice_here", "_law_items"] (spPick K) := by
  have G_law_roll : FnOk P w K mg base CX0 1 T.f_law_roll T.fd_law_roll ["_law_dice_here", "_law_total"] spRoll := ok_law_roll T
  refine T.F_law_pick.ok sc_law_pick (fun vs H Q E h => ?_) (fun cdv A outer s H vs Q E hr h => ?_)
  · obtain ⟨a, b, x, y, z, xs, rfl, _⟩ := h
    rfl
  · obtain ⟨a, b, x, y, z, xs, rfl, hd, hb, hab, l0, l1, q⟩ := h
    refine ⟨_, (PSs.nox (pss_one (ps_ret (pe_ix ix_list (pv 1) (pe_call G_law_roll hr (by rfl) T.g_law_roll T.F_law_roll.kp T.b_law_roll .nil pass0 (pa_cons (pv 0) (pa_cons (pe_callB call_len_seq (by rfl) T.z_len (by decide +kernel) (pa_cons (pv 1) pa_nil)) pa_nil))) (fun _ _ => rfl))))), ?_⟩
    refine ⟨.ref b, rfl, .ref a, rfl, .ref b, rfl, b, xs, rfl, .inl (SqL.of hb), ?_⟩
    refine ⟨a, x, y, z, _, rfl, hd, (by omega : (0 : Int) < (xs.length : Int)), Nat.lt_trans (PySem.Flt.log2_lt_of (k := 10) (by decide) (by show xs.length < 2 ^ 10; omega)) (by decide), fun r x' z' h1 h2 => ?_⟩
    obtain ⟨j, rfl⟩ := Int.eq_ofNat_of_zero_le h1
    have hj : j < xs.length := by omega
    exact ⟨b, xs, j, xs[j], rfl, rfl, SqL.of (by rw [upd_ne (Ne.symm hab)]; exact hb), atI_nat (List.getElem?_eq_getElem hj), q j _ x' z' (List.getElem?_eq_getElem hj)⟩
def spRoll2 : Sp := fun vs H Q _ => ∃ (a : Addr) (n : Int), vs = [.ref a, .int n] ∧ Dc H a ∧ 0 < n ∧ n.natAbs.log2 < 9000 ∧ ∀ (r : Nat) H', (r : Int) < n → Sx a H H' → Dc H' a → Q (.int r) H'
theorem roll2 : ∀ vs H Q E, spRoll2 vs H Q E → spRoll vs H Q E := fun vs H Q E h => by
  obtain ⟨a, n, rfl, ⟨x, y, z, e⟩, h0, h1, q⟩ := h
  refine ⟨a, x, y, z, n, rfl, e, h0, h1, fun r x' z' r0 r1 => ?_⟩
  obtain ⟨j, rfl⟩ := Int.eq_ofNat_of_zero_le r0
  exact q j _ r1 Sx.upd ⟨x', y, z', upd_same⟩
def spPick2 : Sp := fun vs H Q _ => ∃ (a b : Addr) (xs : List V), vs = [.ref a, .ref b] ∧ Dc H a ∧ H b = some (.lst xs) ∧ b ≠ a ∧ 0 < xs.length ∧ xs.length < 1000 ∧ ∀ v H', v ∈ xs → Sx a H H' → Dc H' a → Q v H'
theorem pick2 {K : PySem.W.Frag} : ∀ vs H Q E, spPick2 vs H Q E → spPick K vs H Q E := fun vs H Q E h => by
  obtain ⟨a, b, xs, rfl, ⟨x, y, z, e⟩, hb, ne, l0, l1, q⟩ := h
  exact ⟨a, b, x, y, z, xs, rfl, e, hb, Ne.symm ne, l0, l1, fun i v x' z' hv => q v _ (List.mem_of_getElem? hv) Sx.upd ⟨x', y, z', upd_same⟩⟩
def spRight : Sp := fun vs H Q _ => ∃ a : Addr, vs = [.ref a] ∧ Dc H a ∧ ∀ H', Sx a H H' → Dc H' a → Q (.bl true) H'
end
end K00

set_option Elab.async false
set_option linter.all false
set_option maxRecDepth 100000
set_option maxHeartbeats 4000000
namespace K00
open PySem PySem.Spec PyProof.Rows L2 MyR
theorem rtR_none_l {u v : Int} (h : rt u = none) : rtR u v = none := by
  unfold rtR
  rw [h]
theorem rtR_none_r {u v : Int} (h : rt v = none) : rtR u v = none := by
  unfold rtR
  rw [h]
  cases rt u <;> rfl
theorem rtR_some {u v x y : Int} (h : rt u = some x) (k : rt v = some y) : rtR u v = some (x, y) := by
  unfold rtR
  rw [h, k]
def txtP (u v : Int) : Str := if v = 1 then Str.ofString (toString u) else Str.empty ++ Str.ofString (toString u) ++ "/" ++ Str.ofString (toString v)
section
variable {P : Program} {w : World} {K : PySem.W.Frag} {mg : Str → Option Value} {base : Heap}
/-- the root of a ratio, or None -/
def spRootIn (K : PySem.W.Frag) : Sp := fun vs H Q _ => ∃ (a : Addr) (u v : Int), vs = [.ref a] ∧ SqT K H a [.int u, .int v] ∧ sm u ∧ sm v ∧ 0 < v ∧ (rtR u v = none → Q .non H) ∧ ∀ x y, rtR u v = some (x, y) → ∀ p, H p = none → Q (.ref p) (upd H p (tup2 (x, y)))
theorem ok_root_in (T : Facts K mg) : FnOk P w K mg base CX0 2 T.f_root_in T.fd_root_in ["ratio"] (spRootIn K) := by
  have G_whole_root : FnOk P w K mg base CX0 1 T.f_whole_root T.fd_whole_root ["number"] spRoot := ok_whole_root T
  refine T.F_root_in.ok sc_root_in (fun vs H Q E h => ?_) (fun cdv A outer s H vs Q E hr h => ?_)
  · obtain ⟨a, u, v, rfl, _⟩ := h
    rfl
  · obtain ⟨a, u, v, rfl, ha, su, sv, v0, q1, q2⟩ := h
    refine ⟨_, (PSs.nox (pss_cons (ps_par (i := 1) (j := 2) (by rfl) sc_root_in.nd rfl rfl (by decide) rfl rfl (pa_cons (pe_call G_whole_root hr (by rfl) T.g_whole_root T.F_whole_root.kp T.b_whole_root .nil pass0 (pa_cons (pe_ix ix_tup (pv 0) pe_int (fun _ _ => rfl)) pa_nil)) (pa_cons (pe_call G_whole_root hr (by rfl) T.g_whole_root T.F_whole_root.kp T.b_whole_root .nil pass0 (pa_cons (pe_ix ix_tup (pv 0) pe_int (fun _ _ => rfl)) pa_nil)) pa_nil)) (by rfl))
    (pss_one (ps_ret (pe_ifExp (pw_or (pt_cmpR op_isN (pv 1) pe_non (nomark _)) (pw_or1 (pt_cmpR op_isN (pv 2) pe_non (nomark _)))).pt pe_non (pe_tup (pa_cons (pv 1) (pa_cons (pv 2) pa_nil)))))))), ?_⟩
    refine ⟨_, rfl, a, _, 0, _, rfl, rfl, ha, ix0, u, rfl, su, _, rfl, a, _, 1, _, rfl, rfl, ha, ix1, v, rfl, sv, _, _, rfl, ?_⟩
    cases eu : rt u with
    | none => exact ⟨_, rfl, rfl, true, rfl, iteT (iteT (q1 (rtR_none_l eu)))⟩
    | some x =>
      cases ev : rt v with
      | none => exact ⟨_, rfl, rfl, false, rfl, iteF ⟨_, rfl, rfl, true, rfl, iteT (q1 (rtR_none_r ev))⟩⟩
      | some y => exact ⟨_, rfl, rfl, false, rfl, iteF ⟨_, rfl, rfl, false, rfl, iteF ⟨_, rfl, _, rfl, (by show 2 ≤ sizeLine; decide), q2 x y (rtR_some eu ev)⟩⟩⟩
def spRootOf : Sp := fun vs H Q _ => ∃ (a : Addr) (u v : Int), vs = [.ref a] ∧ H a = some (tup2 (u, v)) ∧ RatOk u v ∧ (rtR u v = none → ∀ H', Same H H' → Q .non H') ∧ ∀ x y, rtR u v = some (x, y) → ∀ p H', Same H H' → H p = none → H' p = some (tup2 (x, y)) → Q (.ref p) H'
theorem ok_root_of (T : Facts K mg) : FnOk P w K mg base CX0 6 T.f_root_of T.fd_root_of ["ratio"] spRootOf := by
  have G_require_ratio : FnOk P w K mg base CX0 5 T.f_require_ratio T.fd_require_ratio ["value"] spReqRat := ok_require_ratio T
  have G_root_in : FnOk P w K mg base CX0 2 T.f_root_in T.fd_root_in ["ratio"] (spRootIn K) := ok_root_in T
  refine T.F_root_of.ok sc_root_of (fun vs H Q E h => ?_) (fun cdv A outer s H vs Q E hr h => ?_)
  · obtain ⟨a, u, v, rfl, _⟩ := h
    rfl
  · obtain ⟨a, u, v, rfl, ha, hk, q1, q2⟩ := h
    refine ⟨_, (PSs.nox (pss_cons (ps_expr (pe_call G_require_ratio hr (by rfl) T.g_require_ratio T.F_require_ratio.kp T.b_require_ratio .nil pass0 (pa_cons (pv 0) pa_nil)))
    (pss_one (ps_ret (pe_call G_root_in (hr.mono (by decide)) (by rfl) T.g_root_in T.F_root_in.kp T.b_root_in .nil pass0 (pa_cons (pv 0) pa_nil)))))), ?_⟩
    exact ⟨_, rfl, a, u, v, rfl, ha, hk, fun H1 s1 => ⟨_, rfl, a, u, v, rfl, SqT.of (s1 _ _ ha), sh_sm hk.1, sh_sm hk.2.1, hk.2.2.1, fun e => q1 e H1 s1, fun x y e p hp => q2 x y e p _ (s1.trans (same_upd0 hp)) (Same.free s1 hp) upd_same⟩⟩
/-- ints of few digits -/
def fw (x : Int) : Prop := x.natAbs.log2 < 1920
theorem sm_fw {x : Int} (h : sm x) : fw x := Nat.lt_trans (PySem.Flt.log2_lt_of (by decide) h) (by decide)
theorem len_fw {x : Int} (h : fw x) : (Str.ofString (toString x)).length ≤ 1921 := int_text_len_1921 h
def spTxt (K : PySem.W.Frag) : Sp := fun vs H Q _ => ∃ (a : Addr) (u v : Int), vs = [.ref a] ∧ SqT K H a [.int u, .int v] ∧ fw u ∧ fw v ∧ Q (.str (txtP u v)) H
theorem lenApp (a b : Str) : (a ++ b).length = a.length + b.length := Array.size_append
theorem ok_text_of_ratio (T : Facts K mg) : FnOk P w K mg base CX0 1 T.f_text_of_ratio T.fd_text_of_ratio ["ratio"] (spTxt K) := by
  refine T.F_text_of_ratio.ok sc_text_of_ratio (fun vs H Q E h => ?_) (fun cdv A outer s H vs Q E hr h => ?_)
  · obtain ⟨a, u, v, rfl, _⟩ := h
    rfl
  · obtain ⟨a, u, v, rfl, ha, fu, fv, q⟩ := h
    refine ⟨_, (PSs.nox (pss_one (ps_ret (pe_ifExp (pt_cmpR op_ne (pe_ix ix_tup (pv 0) pe_int (fun _ _ => rfl)) pe_int (nomark _)) (pe_joined (.cons (pe_fmt (pe_ix ix_tup (pv 0) pe_int (fun _ _ => rfl))) (.cons pe_str (.cons (pe_fmt (pe_ix ix_tup (pv 0) pe_int (fun _ _ => rfl))) .nil)))) (pe_joined1 (pe_fmt (pe_ix ix_tup (pv 0) pe_int (fun _ _ => rfl)))))))), ?_⟩
    have l1 := len_fw fu
    have l2 := len_fw fv
    have le0 : Str.empty.length = 0 := rfl
    have ls : ("/" : Str).length = 1 := by decide +kernel
    have hz : (4000 : Nat) ≤ sizeLine := by decide
    refine ⟨_, rfl, a, _, 1, _, rfl, rfl, ha, ix1, rfl, _, rfl, ?_⟩
    unfold txtP at q
    by_cases c : v = 1
    · rw [if_pos c] at q
      rw [decide_eq_true (show V.int v = V.int 1 by rw [c])]
      exact iteF ⟨_, rfl, a, _, 0, _, rfl, rfl, ha, ix0, .inr ⟨u, rfl, fu, q⟩⟩
    · rw [if_neg c] at q
      rw [decide_eq_false fun z => c (V.int.inj z)]
      refine iteT ⟨_, rfl, a, _, 0, _, rfl, rfl, ha, ix0, .inr ⟨u, rfl, fu, _, rfl, ?_, "/", rfl, ?_, _, rfl, a, _, 1, _, rfl, rfl, ha, ix1, .inr ⟨v, rfl, fv, _, rfl, ?_, q⟩⟩⟩
      · rw [lenApp]
        omega
      · rw [lenApp, lenApp]
        omega
      · rw [lenApp, lenApp, lenApp]
        omega
def spTxtC : Sp := fun vs H Q _ => ∃ (a : Addr) (u v : Int), vs = [.ref a] ∧ H a = some (tup2 (u, v)) ∧ RatOk u v ∧ ∀ H', Same H H' → Q (.str (txtP u v)) H'
theorem ok_ratio_text (T : Facts K mg) : FnOk P w K mg base CX0 6 T.f_ratio_text T.fd_ratio_text ["ratio"] spTxtC := by
  have G_require_ratio : FnOk P w K mg base CX0 5 T.f_require_ratio T.fd_require_ratio ["value"] spReqRat := ok_require_ratio T
  have G_text_of_ratio : FnOk P w K mg base CX0 1 T.f_text_of_ratio T.fd_text_of_ratio ["ratio"] (spTxt K) := ok_text_of_ratio T
  refine T.F_ratio_text.ok sc_ratio_text (fun vs H Q E h => ?_) (fun cdv A outer s H vs Q E hr h => ?_)
  · obtain ⟨a, u, v, rfl, _⟩ := h
    rfl
  · obtain ⟨a, u, v, rfl, ha, hk, q⟩ := h
    refine ⟨_, (PSs.nox (pss_cons (ps_expr (pe_call G_require_ratio hr (by rfl) T.g_require_ratio T.F_require_ratio.kp T.b_require_ratio .nil pass0 (pa_cons (pv 0) pa_nil)))
    (pss_one (ps_ret (pe_call G_text_of_ratio (hr.mono (by decide)) (by rfl) T.g_text_of_ratio T.F_text_of_ratio.kp T.b_text_of_ratio .nil pass0 (pa_cons (pv 0) pa_nil)))))), ?_⟩
    exact ⟨_, rfl, a, u, v, rfl, ha, hk, fun H1 s1 => ⟨_, rfl, a, u, v, rfl, SqT.of (s1 _ _ ha), sm_fw (sh_sm hk.1), sm_fw (sh_sm hk.2.1), q H1 s1⟩⟩
end
end K00

set_option Elab.async false
set_option linter.all false
set_option maxRecDepth 100000
set_option maxHeartbeats 4000000
namespace K00
open PySem PySem.Spec PyProof.Rows L2 MyR
section
variable {P : Program} {w : World} {K : PySem.W.Frag} {mg : Str → Option Value} {base : Heap}
def spNear : Sp := fun vs H Q _ => ∃ (a : Addr) (m : Int), vs = [.ref a, .int m] ∧ Dc H a ∧ 0 ≤ m ∧ m ≤ 10 ^ 15 ∧ ∀ r H', -m ≤ r → r ≤ m → Sx a H H' → Dc H' a → Q (.int r) H'
theorem ok_law_near (T : Facts K mg) : FnOk P w K mg base CX0 2 T.f_law_near T.fd_law_near ["_law_dice_here", "_law_most"] spNear := by
  have G_law_roll : FnOk P w K mg base CX0 1 T.f_law_roll T.fd_law_roll ["_law_dice_here", "_law_total"] spRoll2 := (ok_law_roll T).imp roll2
  refine T.F_law_near.ok sc_law_near (fun vs H Q E h => ?_) (fun cdv A outer s H vs Q E hr h => ?_)
  · obtain ⟨a, m, rfl, _⟩ := h
    rfl
  · obtain ⟨a, m, rfl, hd, h0, h1, q⟩ := h
    refine ⟨_, (PSs.nox (pss_one (ps_ret (pe_op op_sub (pe_call G_law_roll hr (by rfl) T.g_law_roll T.F_law_roll.kp T.b_law_roll .nil pass0 (pa_cons (pv 0) (pa_cons (pe_op op_add (pe_op op_mul pe_int (pv 1)) pe_int) pa_nil))) (pv 1))))), ?_⟩
    have e15 : (10 : Int) ^ 15 = 1000000000000000 := by decide
    rw [e15] at h1
    refine ⟨_, rfl, _, rfl, _, _, rfl, rfl, .inl ⟨by decide, by decide⟩, _, _, rfl, rfl, a, _, rfl, hd, (by show 0 < 2 * m + 1; omega), ?_, fun r H' hr s d => ⟨_, rfl, _, _, rfl, rfl, ?_⟩⟩
    · refine Nat.lt_trans (PySem.Flt.log2_lt_of (k := 60) (by decide) ?_) (by decide)
      show (2 * m + 1).natAbs < 2 ^ 60
      omega
    · have hr' : (r : Int) < 2 * m + 1 := hr
      exact q _ H' (by omega) (by omega) s d
/-! ### the law's own gcd -/
def spLGcd : Sp := fun vs H Q _ => ∃ t b : Int, vs = [.int t, .int b] ∧ Q (.int (gI t b)) H
def yOf : L2.St → Nat
  | [_, some (.int y)] => y.toNat
  | _ => 0
theorem abs_nat (i : Int) : (if i < 0 then -i else i) = (i.natAbs : Int) := by split <;> omega
theorem ok_law_gcd (T : Facts K mg) : FnOk P w K mg base CX0 1 T.f_law_gcd T.fd_law_gcd ["_law_one", "_law_other"] spLGcd := by
  refine T.F_law_gcd.ok sc_law_gcd (fun vs H Q E h => ?_) (fun cdv A outer s H vs Q E hr h => ?_)
  · obtain ⟨t, b, rfl, _⟩ := h
    rfl
  · obtain ⟨t, b, rfl, q⟩ := h
    refine ⟨_, (PSs.nox (pss_cons (ps_par (i := 0) (j := 1) (by rfl) sc_law_gcd.nd rfl rfl (by decide) rfl rfl (pa_cons (pe_callB call_abs (by rfl) T.z_abs (by decide +kernel) (pa_cons (pv 0) pa_nil)) (pa_cons (pe_callB call_abs (by rfl) T.z_abs (by decide +kernel) (pa_cons (pv 1) pa_nil)) pa_nil)) (by rfl))
    (pss_cons (ps_while PassesOwn.never (pt_cmpR op_gt (pv 1) pe_int (nomark _))
      (pss_one (ps_par (i := 0) (j := 1) (by rfl) sc_law_gcd.nd rfl rfl (by decide) rfl rfl (pa_cons (pv 1) (pa_cons (pe_op op_mod (pe_callTy call_int1 (by rfl) T.z_int (by decide +kernel) (pa_cons (pv 0) pa_nil)) (pv 1)) pa_nil)) (by rfl))))
    (pss_one (ps_ret (pv 0)))))), ?_⟩
    refine ⟨_, rfl, t, rfl, _, rfl, b, rfl, _, _, rfl, ?_⟩
    rw [abs_nat, abs_nat]
    refine while_by (fun σ H' => ∃ x y : Nat, σ = [some (.int x), some (.int y)] ∧ Nat.gcd x y = Nat.gcd t.natAbs b.natAbs ∧ H' = H) (fun σ _ => yOf σ) ⟨_, _, rfl, rfl, rfl⟩ (fun σ H' hP => ?_) (fun σ H' Q1 Q2 hQ h => ?_)
    · obtain ⟨x, y, rfl, hg, rfl⟩ := hP
      refine ⟨_, rfl, _, _, rfl, rfl, _, rfl, ?_⟩
      by_cases c : 0 < (y : Int)
      · rw [decide_eq_true c]
        refine iteT ⟨_, rfl, _, rfl, .inl ⟨_, rfl, _, rfl, _, _, rfl, rfl, c, _, _, rfl, ?_⟩⟩
        have e : (x : Int) % (y : Int) = ((x % y : Nat) : Int) := (Int.natCast_emod x y).symm
        refine ⟨⟨y, x % y, ?_, ?_, rfl⟩, ?_⟩
        · show [some (V.int y), some (V.int ((x : Int) % (y : Int)))] = _
          rw [e]
        · rw [← hg, Nat.gcd_comm x y, Nat.gcd_rec y x, Nat.gcd_comm]
        · show ((x : Int) % (y : Int)).toNat < (y : Int).toNat
          rw [e]
          have := Nat.mod_lt x (show y > 0 by omega)
          omega
      · rw [decide_eq_false c]
        have ey : y = 0 := by omega
        subst ey
        refine iteF ⟨_, rfl, ?_⟩
        unfold gI at q
        rw [← hg, Nat.gcd_zero_right] at q
        exact q
    · obtain ⟨v, e, x1, x2, e1, e2, k, e3, h⟩ := h
      exact ⟨v, e, x1, x2, e1, e2, k, e3, hQ _ _ h⟩
theorem ok_law_lowest (T : Facts K mg) : FnOk P w K mg base CX0 2 T.f_law_lowest T.fd_law_lowest ["_law_top", "_law_bottom"] spLow := by
  have G_law_gcd : FnOk P w K mg base CX0 1 T.f_law_gcd T.fd_law_gcd ["_law_one", "_law_other"] spLGcd := ok_law_gcd T
  refine T.F_law_lowest.ok sc_law_lowest (fun vs H Q E h => ?_) (fun cdv A outer s H vs Q E hr h => ?_)
  · obtain ⟨t, b, rfl, _⟩ := h
    rfl
  · obtain ⟨t, b, rfl, hb, hl, q⟩ := h
    refine ⟨_, (PSs.nox (pss_cons (ps_set (i := 2) sc_law_lowest.nd rfl (.inl rfl) (pe_call G_law_gcd hr (by rfl) T.g_law_gcd T.F_law_gcd.kp T.b_law_gcd .nil pass0 (pa_cons (pv 0) (pa_cons (pv 1) pa_nil))))
    (pss_cons (ps_set (i := 2) sc_law_lowest.nd rfl (.inl rfl) (pe_ifExp (pt_cmpR op_gt (pv 1) pe_int (nomark _)) (pv 2) (pe_op op_sub pe_int (pv 2))))
    (pss_one (ps_ret (pe_tup (pa_cons (pe_op op_fdivZ (pv 0) (pv 2)) (pa_cons (pe_op op_fdivZ (pv 1) (pv 2)) pa_nil)))))))), ?_⟩
    have hz := pI_div (t := t) hb hl
    refine ⟨_, rfl, _, rfl, t, b, rfl, ?_⟩
    refine ⟨_, rfl, _, _, rfl, rfl, _, rfl, ?_⟩
    by_cases c : 0 < b
    · rw [decide_eq_true c]
      have ep : pI t b = gI t b := if_pos c
      rw [ep] at hz
      refine iteT ⟨_, rfl, _, rfl, _, rfl, _, _, rfl, rfl, hz, _, rfl, _, rfl, _, _, rfl, rfl, hz, (by show 2 ≤ sizeLine; decide), fun p hp => ?_⟩
      have q' := q p hp
      unfold low at q'
      rw [ep] at q'
      exact q'
    · rw [decide_eq_false c]
      have ep : pI t b = 0 - gI t b := (if_neg c).trans (Int.zero_sub _).symm
      rw [ep] at hz
      refine iteF ⟨_, rfl, _, _, rfl, rfl, _, rfl, _, rfl, _, _, rfl, rfl, hz, _, rfl, _, rfl, _, _, rfl, rfl, hz, (by show 2 ≤ sizeLine; decide), fun p hp => ?_⟩
      have q' := q p hp
      unfold low at q'
      rw [ep] at q'
      exact q'
theorem ok_law_ratio_sum (T : Facts K mg) : FnOk P w K mg base CX0 3 T.f_law_ratio_sum T.fd_law_ratio_sum ["_law_one", "_law_other"] (spQ K nPlus dMul) := by
  have G_law_lowest : FnOk P w K mg base CX0 2 T.f_law_lowest T.fd_law_lowest ["_law_top", "_law_bottom"] spLow := ok_law_lowest T
  refine T.F_law_ratio_sum.ok sc_law_ratio_sum (fun vs H Q E h => ?_) (fun cdv A outer s H vs Q E hr h => ?_)
  · obtain ⟨a, b, a0, a1, b0, b1, rfl, _⟩ := h
    rfl
  · obtain ⟨a, b, a0, a1, b0, b1, rfl, ha, hb, ⟨h0, h1, h2, h3⟩, hd, q⟩ := h
    refine ⟨_, (PSs.nox (pss_one (ps_ret (pe_call G_law_lowest hr (by rfl) T.g_law_lowest T.F_law_lowest.kp T.b_law_lowest .nil pass0 (pa_cons (pe_op op_add (pe_op op_mulW (pe_ix ix_tup (pv 0) pe_int (fun _ _ => rfl)) (pe_ix ix_tup (pv 1) pe_int (fun _ _ => rfl))) (pe_op op_mulW (pe_ix ix_tup (pv 1) pe_int (fun _ _ => rfl)) (pe_ix ix_tup (pv 0) pe_int (fun _ _ => rfl)))) (pa_cons (pe_op op_mulW (pe_ix ix_tup (pv 0) pe_int (fun _ _ => rfl)) (pe_ix ix_tup (pv 1) pe_int (fun _ _ => rfl))) pa_nil)))))), ?_⟩
    refine ⟨_, rfl, a, _, 0, _, rfl, rfl, ha, ix0, _, rfl, b, _, 1, _, rfl, rfl, hb, ix1, _, _, rfl, rfl, sm_mul h0 h3, _, rfl, b, _, 0, _, rfl, rfl, hb, ix0, _, rfl, a, _, 1, _, rfl, rfl, ha, ix1, _, _, rfl, rfl, sm_mul h2 h1, _, _, rfl, rfl, _, rfl, a, _, 1, _, rfl, rfl, ha, ix1, _, rfl, b, _, 1, _, rfl, rfl, hb, ix1, _, _, rfl, rfl, sm_mul h1 h3, ?_⟩
    exact ⟨_, _, rfl, hd, lt801 (sm_lt h1 h3), q⟩
theorem ok_law_ratio_product (T : Facts K mg) : FnOk P w K mg base CX0 3 T.f_law_ratio_product T.fd_law_ratio_product ["_law_one", "_law_other"] (spQ K nTimes dMul) := by
  have G_law_lowest : FnOk P w K mg base CX0 2 T.f_law_lowest T.fd_law_lowest ["_law_top", "_law_bottom"] spLow := ok_law_lowest T
  refine T.F_law_ratio_product.ok sc_law_ratio_product (fun vs H Q E h => ?_) (fun cdv A outer s H vs Q E hr h => ?_)
  · obtain ⟨a, b, a0, a1, b0, b1, rfl, _⟩ := h
    rfl
  · obtain ⟨a, b, a0, a1, b0, b1, rfl, ha, hb, ⟨h0, h1, h2, h3⟩, hd, q⟩ := h
    refine ⟨_, (PSs.nox (pss_one (ps_ret (pe_call G_law_lowest hr (by rfl) T.g_law_lowest T.F_law_lowest.kp T.b_law_lowest .nil pass0 (pa_cons (pe_op op_mulW (pe_ix ix_tup (pv 0) pe_int (fun _ _ => rfl)) (pe_ix ix_tup (pv 1) pe_int (fun _ _ => rfl))) (pa_cons (pe_op op_mulW (pe_ix ix_tup (pv 0) pe_int (fun _ _ => rfl)) (pe_ix ix_tup (pv 1) pe_int (fun _ _ => rfl))) pa_nil)))))), ?_⟩
    refine ⟨_, rfl, a, _, 0, _, rfl, rfl, ha, ix0, _, rfl, b, _, 0, _, rfl, rfl, hb, ix0, _, _, rfl, rfl, sm_mul h0 h2, _, rfl, a, _, 1, _, rfl, rfl, ha, ix1, _, rfl, b, _, 1, _, rfl, rfl, hb, ix1, _, _, rfl, rfl, sm_mul h1 h3, ?_⟩
    exact ⟨_, _, rfl, hd, lt801 (sm_lt h1 h3), q⟩
/-- a drawn ratio -/
def spSome : Sp := fun vs H Q _ => ∃ (a : Addr) (m : Int), vs = [.ref a, .int m] ∧ Dc H a ∧ 1 ≤ m ∧ m ≤ 10 ^ 15 ∧ ∀ p H' t b, t.natAbs ≤ m.natAbs → 1 ≤ b → b ≤ m → Sx a H H' → Dc H' a → p ≠ a → H p = none → H' p = some (tup2 (low t b)) → Q (.ref p) H'
theorem ok_law_some_ratio (T : Facts K mg) : FnOk P w K mg base CX0 3 T.f_law_some_ratio T.fd_law_some_ratio ["_law_dice_here", "_law_most"] spSome := by
  have G_law_roll : FnOk P w K mg base CX0 1 T.f_law_roll T.fd_law_roll ["_law_dice_here", "_law_total"] spRoll2 := (ok_law_roll T).imp roll2
  have G_law_near : FnOk P w K mg base CX0 2 T.f_law_near T.fd_law_near ["_law_dice_here", "_law_most"] spNear := ok_law_near T
  have G_law_lowest : FnOk P w K mg base CX0 2 T.f_law_lowest T.fd_law_lowest ["_law_top", "_law_bottom"] spLow := ok_law_lowest T
  refine T.F_law_some_ratio.ok sc_law_some_ratio (fun vs H Q E h => ?_) (fun cdv A outer s H vs Q E hr h => ?_)
  · obtain ⟨a, m, rfl, _⟩ := h
    rfl
  · obtain ⟨a, m, rfl, hd, h0, h1, q⟩ := h
    refine ⟨_, (PSs.nox (pss_one (ps_ret (pe_call G_law_lowest hr (by rfl) T.g_law_lowest T.F_law_lowest.kp T.b_law_lowest .nil pass0 (pa_cons (pe_call G_law_near hr (by rfl) T.g_law_near T.F_law_near.kp T.b_law_near .nil pass0 (pa_cons (pv 0) (pa_cons (pv 1) pa_nil))) (pa_cons (pe_op op_add pe_int (pe_call G_law_roll (hr.mono (by decide)) (by rfl) T.g_law_roll T.F_law_roll.kp T.b_law_roll .nil pass0 (pa_cons (pv 0) (pa_cons (pv 1) pa_nil)))) pa_nil)))))), ?_⟩
    have e15 : (10 : Int) ^ 15 = 1000000000000000 := by decide
    refine ⟨_, rfl, _, rfl, a, m, rfl, hd, by omega, h1, fun t H1 t0 t1 s1 d1 => ⟨_, rfl, _, rfl, a, m, rfl, d1, by omega, ?_, fun r H2 hr s2 d2 => ⟨_, _, rfl, rfl, ?_⟩⟩⟩
    · rw [e15] at h1
      refine Nat.lt_trans (PySem.Flt.log2_lt_of (k := 60) (by decide) ?_) (by decide)
      omega
    · rw [e15] at h1
      refine ⟨t, 1 + (r : Int), rfl, by omega, ?_, fun p hp => ?_⟩
      · have : (1 + (r : Int)).natAbs < 2 ^ 60 := by omega
        exact Nat.lt_trans this (Nat.pow_lt_pow_right (by decide) (by decide))
      · have np : p ≠ a := d2.ne hp
        refine q p _ t (1 + (r : Int)) (by omega) (by omega) (by omega) (s1.trans (s2.trans (Sx.of (same_upd0 hp)))) (d2.same (same_upd0 hp)) np ((s1.trans s2).free hp np) upd_same
/-! ### the law's own root -/
def spIRoot : Sp := fun vs H Q _ => ∃ n : Nat, vs = [.int n] ∧ sm n ∧ ∀ r : Nat, r * r ≤ n → n < (r + 1) * (r + 1) → Q (.int r) H
def gapOf : L2.St → Nat
  | [_, some (.int l), some (.int h), _] => (h - l).toNat
  | _ => 0
theorem ok_law_int_root (T : Facts K mg) : FnOk P w K mg base CX0 1 T.f_law_int_root T.fd_law_int_root ["_law_number"] spIRoot := by
  refine T.F_law_int_root.ok sc_law_int_root (fun vs H Q E h => ?_) (fun cdv A outer s H vs Q E hr h => ?_)
  · obtain ⟨n, rfl, _⟩ := h
    rfl
  · obtain ⟨n, rfl, hn, q⟩ := h
    refine ⟨_, (PSs.nox (pss_cons (ps_par (i := 1) (j := 2) (by rfl) sc_law_int_root.nd rfl rfl (by decide) rfl rfl (pa_cons pe_int (pa_cons (pe_op op_add (pv 0) pe_int) pa_nil)) (by rfl))
    (pss_cons (ps_while PassesOwn.never (pt_cmpR op_gt (pe_op op_sub (pv 2) (pv 1)) pe_int (nomark _))
      (pss_cons (ps_set (i := 3) sc_law_int_root.nd rfl (.inl rfl) (pe_op op_fdiv (pe_op op_add (pv 1) (pv 2)) pe_int))
      (pss_one (ps_if (pt_cmpR op_le (pe_op op_mulW (pv 3) (pv 3)) (pv 0) (nomark _))
        (pss_one (ps_set (i := 1) sc_law_int_root.nd rfl (.inl rfl) (pv 3)))
        (pss_one (ps_set (i := 2) sc_law_int_root.nd rfl (.inl rfl) (pv 3)))))))
    (pss_one (ps_ret (pv 1)))))), ?_⟩
    have hn' : n < 2 ^ 400 := hn
    refine ⟨_, rfl, _, _, rfl, rfl, _, _, rfl, while_by (fun σ H' => ∃ (l h : Nat) (z : Option V), σ = [some (.int n), some (.int l), some (.int h), z] ∧ l < h ∧ h ≤ n + 1 ∧ l * l ≤ n ∧ n < h * h ∧ H' = H) (fun σ _ => gapOf σ) ⟨0, n + 1, none, rfl, by omega, by omega, by omega, ?_, rfl⟩ (fun σ H' hP => ?_) (fun σ H' Q1 Q2 hQ h => ?_)⟩
    · have : n + 1 ≤ (n + 1) * (n + 1) := Nat.le_mul_self _
      omega
    · obtain ⟨l, h, z, rfl, lh, hn1, ll, hh, rfl⟩ := hP
      refine ⟨_, rfl, _, rfl, _, _, rfl, rfl, _, _, rfl, rfl, _, rfl, ?_⟩
      by_cases c : (1 : Int) < (h : Int) - (l : Int)
      · rw [decide_eq_true c]
        have em : ((l : Int) + (h : Int)) / 2 = (((l + h) / 2 : Nat) : Int) := by omega
        obtain ⟨m, hm⟩ : ∃ m, m = (l + h) / 2 := ⟨_, rfl⟩
        rw [← hm] at em
        have m1 : l < m := by omega
        have m2 : m < h := by omega
        have sm1 : sm ((m : Nat) : Int) := by
          show m < 2 ^ 400
          omega
        refine iteT ⟨_, rfl, _, rfl, _, _, rfl, rfl, _, _, rfl, rfl, ⟨by decide, by decide⟩, ?_⟩
        show _
        refine ⟨.int m, (by show some (some (V.int (((l : Int) + h) / 2))) = _; rw [em]), .int m, (by show some (some (V.int (((l : Int) + h) / 2))) = _; rw [em]), _, _, rfl, rfl, sm_mul sm1 sm1, _, rfl, _, _, rfl, rfl, _, rfl, ?_⟩
        have emm : ((m : Nat) : Int) * (m : Int) = ((m * m : Nat) : Int) := (Int.natCast_mul m m).symm
        by_cases c2 : (m : Int) * m ≤ (n : Int)
        · rw [decide_eq_true c2]
          refine iteT ⟨.int m, (by show some (some (V.int (((l : Int) + h) / 2))) = _; rw [em]), ⟨m, h, _, rfl, m2, hn1, by omega, hh, rfl⟩, ?_⟩
          show ((h : Int) - (m : Int)).toNat < ((h : Int) - (l : Int)).toNat
          omega
        · rw [decide_eq_false c2]
          refine iteF ⟨.int m, (by show some (some (V.int (((l : Int) + h) / 2))) = _; rw [em]), ⟨l, m, _, rfl, m1, by omega, ll, by omega, rfl⟩, ?_⟩
          show ((m : Int) - (l : Int)).toNat < ((h : Int) - (l : Int)).toNat
          omega
      · rw [decide_eq_false c]
        have eh : h = l + 1 := by omega
        subst eh
        exact iteF ⟨_, rfl, q l ll hh⟩
    · obtain ⟨v1, a1, v2, a2, x1, x2, b1, b2, x3, x4, b3, b4, k, e3, h⟩ := h
      exact ⟨v1, a1, v2, a2, x1, x2, b1, b2, x3, x4, b3, b4, k, e3, hQ _ _ h⟩
theorem ok_law_root_due (T : Facts K mg) : FnOk P w K mg base CX0 2 T.f_law_root_due T.fd_law_root_due ["_law_ratio"] (spRootIn K) := by
  have G_law_int_root : FnOk P w K mg base CX0 1 T.f_law_int_root T.fd_law_int_root ["_law_number"] spIRoot := ok_law_int_root T
  refine T.F_law_root_due.ok sc_law_root_due (fun vs H Q E h => ?_) (fun cdv A outer s H vs Q E hr h => ?_)
  · obtain ⟨a, u, v, rfl, _⟩ := h
    rfl
  · obtain ⟨a, u, v, rfl, ha, su, sv, v0, q1, q2⟩ := h
    refine ⟨_, (PSs.nox (pss_cons (ps_if (pt_cmpR op_lt (pe_ix ix_tup (pv 0) pe_int (fun _ _ => rfl)) pe_int (nomark _))
      (pss_one (ps_ret pe_non))
      pss_nil)
    (pss_cons (ps_par (i := 1) (j := 2) (by rfl) sc_law_root_due.nd rfl rfl (by decide) rfl rfl (pa_cons (pe_call G_law_int_root hr (by rfl) T.g_law_int_root T.F_law_int_root.kp T.b_law_int_root .nil pass0 (pa_cons (pe_ix ix_tup (pv 0) pe_int (fun _ _ => rfl)) pa_nil)) (pa_cons (pe_call G_law_int_root hr (by rfl) T.g_law_int_root T.F_law_int_root.kp T.b_law_int_root .nil pass0 (pa_cons (pe_ix ix_tup (pv 0) pe_int (fun _ _ => rfl)) pa_nil)) pa_nil)) (by rfl))
    (pss_one (ps_ret (pe_ifExp (pw_and (pt_cmpR op_eq (pe_op op_mulW (pv 1) (pv 1)) (pe_ix ix_tup (pv 0) pe_int (fun _ _ => rfl)) (nomark _)) (pw_and1 (pt_cmpR op_eq (pe_op op_mulW (pv 2) (pv 2)) (pe_ix ix_tup (pv 0) pe_int (fun _ _ => rfl)) (nomark _)))).pt (pe_tup (pa_cons (pv 1) (pa_cons (pv 2) pa_nil))) pe_non)))))), ?_⟩
    refine ⟨_, rfl, a, _, 0, _, rfl, rfl, ha, ix0, _, _, rfl, rfl, _, rfl, ?_⟩
    by_cases c : u < 0
    · rw [decide_eq_true c]
      exact iteT (q1 (rtR_none_l (rt_neg c)))
    · rw [decide_eq_false c]
      obtain ⟨x, rfl⟩ := Int.eq_ofNat_of_zero_le (show 0 ≤ u by omega)
      obtain ⟨y, rfl⟩ := Int.eq_ofNat_of_zero_le (show 0 ≤ v by omega)
      refine iteF ⟨_, rfl, a, _, 0, _, rfl, rfl, ha, ix0, x, rfl, su, fun r r1 r2 => ⟨_, rfl, a, _, 1, _, rfl, rfl, ha, ix1, y, rfl, sv, fun t t1 t2 => ⟨_, _, rfl, ?_⟩⟩⟩
      have er : rt (x : Int) = if (r : Int) * r = (x : Int) then some (r : Int) else none := rt_of (by omega) r1 r2
      have et : rt (y : Int) = if (t : Int) * t = (y : Int) then some (t : Int) else none := rt_of (by omega) t1 t2
      have hx : x < 2 ^ 400 := su
      have hy : y < 2 ^ 400 := sv
      have sr : sm (r : Int) := by
        have := Nat.le_mul_self r
        show r < 2 ^ 400
        omega
      have st : sm (t : Int) := by
        have := Nat.le_mul_self t
        show t < 2 ^ 400
        omega
      refine ⟨_, rfl, _, rfl, _, _, rfl, rfl, sm_mul sr sr, _, rfl, a, _, 0, _, rfl, rfl, ha, ix0, rfl, _, rfl, ?_⟩
      by_cases c1 : (r : Int) * r = (x : Int)
      · rw [decide_eq_true (show V.int ((r : Int) * r) = V.int (x : Int) by rw [c1])]
        rw [if_pos c1] at er
        refine iteT ⟨_, rfl, _, rfl, _, _, rfl, rfl, sm_mul st st, _, rfl, a, _, 1, _, rfl, rfl, ha, ix1, rfl, _, rfl, ?_⟩
        by_cases c2 : (t : Int) * t = (y : Int)
        · rw [decide_eq_true (show V.int ((t : Int) * t) = V.int (y : Int) by rw [c2])]
          rw [if_pos c2] at et
          exact iteT ⟨_, rfl, _, rfl, (by show 2 ≤ sizeLine; decide), q2 _ _ (rtR_some er et)⟩
        · rw [decide_eq_false fun z => c2 (V.int.inj z)]
          rw [if_neg c2] at et
          exact iteF (q1 (rtR_none_r et))
      · rw [decide_eq_false fun z => c1 (V.int.inj z)]
        rw [if_neg c1] at er
        exact iteF (iteF (q1 (rtR_none_l er)))
theorem ok_law_text_of (T : Facts K mg) : FnOk P w K mg base CX0 1 T.f_law_text_of T.fd_law_text_of ["_law_ratio"] (spTxt K) := by
  refine T.F_law_text_of.ok sc_law_text_of (fun vs H Q E h => ?_) (fun cdv A outer s H vs Q E hr h => ?_)
  · obtain ⟨a, u, v, rfl, _⟩ := h
    rfl
  · obtain ⟨a, u, v, rfl, ha, fu, fv, q⟩ := h
    refine ⟨_, (PSs.nox (pss_one (ps_ret (pe_op op_add_str (pe_callTy call_str_int (by rfl) T.z_str (by decide +kernel) (pa_cons (pe_ix ix_tup (pv 0) pe_int (fun _ _ => rfl)) pa_nil)) (pe_ifExp (pt_cmpR op_eq (pe_ix ix_tup (pv 0) pe_int (fun _ _ => rfl)) pe_int (nomark _)) pe_str (pe_op op_add_str pe_str (pe_callTy call_str_int (by rfl) T.z_str (by decide +kernel) (pa_cons (pe_ix ix_tup (pv 0) pe_int (fun _ _ => rfl)) pa_nil)))))))), ?_⟩
    have l1 := len_fw fu
    have l2 := len_fw fv
    have ls : ("/" : Str).length = 1 := by decide +kernel
    have le : ("" : Str).length = 0 := by decide +kernel
    have ee : ("" : Str) = Str.empty := by decide +kernel
    have hz : (4000 : Nat) ≤ sizeLine := by decide
    refine ⟨_, rfl, a, _, 0, _, rfl, rfl, ha, ix0, u, rfl, fu, _, rfl, a, _, 1, _, rfl, rfl, ha, ix1, rfl, _, rfl, ?_⟩
    unfold txtP at q
    by_cases c : v = 1
    · rw [if_pos c] at q
      rw [decide_eq_true (show V.int v = V.int 1 by rw [c])]
      refine iteT ⟨_, _, rfl, rfl, ?_, ?_⟩
      · rw [le]
        omega
      · rw [ee, Str.append_empty]
        exact q
    · rw [if_neg c] at q
      rw [decide_eq_false fun z => c (V.int.inj z)]
      refine iteF ⟨_, rfl, a, _, 1, _, rfl, rfl, ha, ix1, v, rfl, fv, _, _, rfl, rfl, ?_, _, _, rfl, rfl, ?_, ?_⟩
      · rw [ls]
        omega
      · rw [lenApp, ls]
        omega
      · rw [Str.empty_append, Str.append_assoc] at q
        exact q
end
end K00

set_option Elab.async false
set_option linter.all false
set_option maxRecDepth 100000
set_option maxHeartbeats 4000000
namespace K00
open PySem PySem.Spec PyProof.Rows L2 MyR
/-! ### == of tuples of ints, of None -/
theorem dpAll_ints {K : PySem.W.Frag} {H : Hp} : ∀ ns : List Int, DpAll K H (ns.map V.int) (ns.map PyData.int)
  | [] => .nil
  | n :: r => .cons (.int n) (dpAll_ints r)
theorem lay_ints : ∀ ns : List Int, PyData.canLayAll0 (ns.map PyData.int) = true
  | [] => rfl
  | n :: r => by
    show (PyData.canLay0 (.int n) && PyData.canLayAll0 (r.map PyData.int)) = true
    rw [lay_ints r]
    rfl
theorem depth_ints : ∀ ns : List Int, PyData.depthAll (ns.map PyData.int) = 0
  | [] => rfl
  | n :: r => by
    show max (PyData.depth (.int n)) (PyData.depthAll (r.map PyData.int)) = 0
    rw [depth_ints r]
    rfl
theorem shaped_tints (ns : List Int) : SeqAt.shaped (.tuple (ns.map PyData.int)) = true := by
  unfold SeqAt.shaped
  rw [show PyData.canLay0 (.tuple (ns.map PyData.int)) = PyData.canLayAll0 (ns.map PyData.int) from rfl, lay_ints]
  rw [show PyData.depth (.tuple (ns.map PyData.int)) = PyData.depthAll (ns.map PyData.int) + 1 from rfl, depth_ints]
  rfl
theorem eqv_tints (ns : List Int) : PyData.eqv (.tuple (ns.map PyData.int)) (.tuple (ns.map PyData.int)) = true := SeqAt.eqv_refl _ (lay_ints ns)
theorem ne_same {K : PySem.W.Frag} {H : Hp} {a b : Addr} {ns : List Int} {Q : VK} (ha : SqT K H a (ns.map V.int)) (hb : SqT K H b (ns.map V.int)) (q : Q (.bl false) H) : rNeD K (.ref a) (.ref b) H Q := by
  refine ⟨_, _, .tup ha (dpAll_ints ns), .tup hb (dpAll_ints ns), shaped_tints ns, shaped_tints ns, ?_⟩
  rw [eqv_tints]
  exact q
theorem eq_same {K : PySem.W.Frag} {H : Hp} {a b : Addr} {ns : List Int} {Q : VK} (ha : SqT K H a (ns.map V.int)) (hb : SqT K H b (ns.map V.int)) (q : Q (.bl true) H) : rEqD K (.ref a) (.ref b) H Q := by
  refine ⟨_, _, .tup ha (dpAll_ints ns), .tup hb (dpAll_ints ns), shaped_tints ns, shaped_tints ns, ?_⟩
  rw [eqv_tints]
  exact q
theorem ne_none {K : PySem.W.Frag} {H : Hp} {Q : VK} (q : Q (.bl false) H) : rNeD K .non .non H Q := by
  refine ⟨.none, .none, .non, .non, by decide, by decide, ?_⟩
  rw [SeqAt.eqv_refl PyData.none rfl]
  exact q
theorem sq2 {K : PySem.W.Frag} {H : Hp} {a : Addr} {z : Int × Int} (h : H a = some (tup2 z)) : SqT K H a ([z.1, z.2].map V.int) := SqT.of h
/-- a ratio with integers of at most fifteen digits -/
structure Md (u v : Int) : Prop where
  bu : u.natAbs ≤ 10 ^ 15
  bv : v.natAbs ≤ 10 ^ 15
  pos : 0 < v
  cop : Nat.gcd u.natAbs v.natAbs = 1
theorem sh_of {x : Int} (h : x.natAbs < 10 ^ 60) : shV (.int x) = true := by
  show (decide (-big < x) && decide (x < big)) = true
  have e : big = ((10 ^ 60 : Nat) : Int) := by decide +kernel
  rw [e, decide_eq_true (by omega), decide_eq_true (by omega)]
  rfl
theorem Md.ok {u v : Int} (h : Md u v) : RatOk u v := ⟨sh_of (Nat.lt_of_le_of_lt h.bu (by decide)), sh_of (Nat.lt_of_le_of_lt h.bv (by decide)), h.pos, h.cop⟩
theorem b30 {x y : Int} (hx : x.natAbs ≤ 10 ^ 15) (hy : y.natAbs ≤ 10 ^ 15) : (x * y).natAbs ≤ 10 ^ 30 := by
  rw [Int.natAbs_mul]
  exact Nat.le_trans (Nat.mul_le_mul hx hy) (by decide)
/-- what is told in lowest terms, of ints below 10 ** 59 -/
theorem low_ok {t b : Int} (hb : b ≠ 0) (ht : t.natAbs ≤ 10 ^ 59) (hl : b.natAbs ≤ 10 ^ 59) : RatOk (low t b).1 (low t b).2 :=
  ⟨sh_of (Nat.lt_of_le_of_lt (Nat.le_trans (low_le1 hb) ht) (by decide)), sh_of (Nat.lt_of_le_of_lt (Nat.le_trans (low_le2 hb) hl) (by decide)), low_pos hb, low_cop hb⟩
theorem mul_ne {x y : Int} (hx : 0 < x) (hy : 0 < y) : x * y ≠ 0 := Int.ne_of_gt (Int.mul_pos hx hy)
theorem minus_back {a0 a1 b0 b1 : Int} (ha : Md a0 a1) (hb : Md b0 b1) : low (nMinus (low (nPlus a0 a1 b0 b1) (dMul a0 a1 b0 b1)).1 (low (nPlus a0 a1 b0 b1) (dMul a0 a1 b0 b1)).2 b0 b1) (dMul (low (nPlus a0 a1 b0 b1) (dMul a0 a1 b0 b1)).1 (low (nPlus a0 a1 b0 b1) (dMul a0 a1 b0 b1)).2 b0 b1) = (a0, a1) := by
  have hd : dMul a0 a1 b0 b1 ≠ 0 := mul_ne ha.pos hb.pos
  have e := low_eq (t := nPlus a0 a1 b0 b1) hd
  have p := low_pos (t := nPlus a0 a1 b0 b1) hd
  generalize low (nPlus a0 a1 b0 b1) (dMul a0 a1 b0 b1) = z at e p ⊢
  obtain ⟨x, y⟩ := z
  have e' : x * (a1 * b1) = (a0 * b1 + b0 * a1) * y := e
  refine low_uniq (mul_ne p hb.pos) ha.pos ha.cop ?_
  show a0 * (y * b1) = (x * b1 - b0 * y) * a1
  have e1 : x * b1 * a1 = (a0 * b1 + b0 * a1) * y := by rw [← e', Int.mul_assoc, Int.mul_comm b1 a1]
  rw [Int.sub_mul, e1, Int.add_mul]
  have e2 : a0 * (y * b1) = a0 * b1 * y := by rw [Int.mul_comm y b1, Int.mul_assoc]
  have e3 : b0 * a1 * y = b0 * y * a1 := by rw [Int.mul_assoc, Int.mul_assoc, Int.mul_comm a1 y]
  rw [e2, e3]
  omega
theorem over_back {a0 a1 b0 b1 : Int} (ha : Md a0 a1) (hb : Md b0 b1) (h0 : b0 ≠ 0) : low (nOver (low (nTimes a0 a1 b0 b1) (dMul a0 a1 b0 b1)).1 (low (nTimes a0 a1 b0 b1) (dMul a0 a1 b0 b1)).2 b0 b1) (dOver (low (nTimes a0 a1 b0 b1) (dMul a0 a1 b0 b1)).1 (low (nTimes a0 a1 b0 b1) (dMul a0 a1 b0 b1)).2 b0 b1) = (a0, a1) := by
  have hd : dMul a0 a1 b0 b1 ≠ 0 := mul_ne ha.pos hb.pos
  have e := low_eq (t := nTimes a0 a1 b0 b1) hd
  have p := low_pos (t := nTimes a0 a1 b0 b1) hd
  generalize low (nTimes a0 a1 b0 b1) (dMul a0 a1 b0 b1) = z at e p ⊢
  obtain ⟨x, y⟩ := z
  have e' : x * (a1 * b1) = (a0 * b0) * y := e
  refine low_uniq (Int.mul_ne_zero (Int.ne_of_gt p) h0) ha.pos ha.cop ?_
  show a0 * (y * b0) = x * b1 * a1
  rw [Int.mul_assoc, Int.mul_comm b1 a1, e', Int.mul_assoc, Int.mul_comm y b0]
theorem sq_low {a0 a1 : Int} (ha : Md a0 a1) : low (nTimes a0 a1 a0 a1) (dMul a0 a1 a0 a1) = (a0 * a0, a1 * a1) :=
  low_uniq (mul_ne ha.pos ha.pos) (Int.mul_pos ha.pos ha.pos) (cop_sq ha.cop) rfl
theorem cmp_swap (l r : Int) : cmpI r l = 0 - cmpI l r := by
  unfold cmpI
  by_cases h1 : l < r
  · rw [decide_eq_true h1, decide_eq_false (show ¬ r < l by omega)]
    rfl
  · rw [decide_eq_false h1]
    by_cases h2 : r < l
    · rw [decide_eq_true h2]
      rfl
    · rw [decide_eq_false h2]
      rfl
section
variable {P : Program} {w : World} {K : PySem.W.Frag} {mg : Str → Option Value} {base : Heap}
def spPairR : Sp := fun vs H Q _ => ∃ (d a b : Addr) (a0 a1 b0 b1 : Int), vs = [.ref d, .ref a, .ref b] ∧ H a = some (tup2 (a0, a1)) ∧ H b = some (tup2 (b0, b1)) ∧ Md a0 a1 ∧ Md b0 b1 ∧ ∀ H', Same H H' → Q (.bl true) H'
theorem ok_law_pair_right (T : Facts K mg) : FnOk P w K mg base CX0 8 T.f_law_pair_right T.fd_law_pair_right ["_law_dice_here", "_law_one", "_law_other"] spPairR := by
  have G_law_ratio_sum : FnOk P w K mg base CX0 3 T.f_law_ratio_sum T.fd_law_ratio_sum ["_law_one", "_law_other"] (spQ K nPlus dMul) := ok_law_ratio_sum T
  have G_law_ratio_product : FnOk P w K mg base CX0 3 T.f_law_ratio_product T.fd_law_ratio_product ["_law_one", "_law_other"] (spQ K nTimes dMul) := ok_law_ratio_product T
  have G_law_lowest : FnOk P w K mg base CX0 2 T.f_law_lowest T.fd_law_lowest ["_law_top", "_law_bottom"] spLow := ok_law_lowest T
  have G_plus : FnOk P w K mg base CX0 7 T.f_plus T.fd_plus ["one", "other"] (spP nPlus dMul) := ok_plus T
  have G_minus : FnOk P w K mg base CX0 7 T.f_minus T.fd_minus ["one", "other"] (spP nMinus dMul) := ok_minus T
  have G_times : FnOk P w K mg base CX0 7 T.f_times T.fd_times ["one", "other"] (spP nTimes dMul) := ok_times T
  have G_over : FnOk P w K mg base CX0 7 T.f_over T.fd_over ["one", "other"] (spP nOver dOver) := ok_over T
  have G_compare : FnOk P w K mg base CX0 7 T.f_compare T.fd_compare ["one", "other"] spC := ok_compare T
  have G_root_of : FnOk P w K mg base CX0 6 T.f_root_of T.fd_root_of ["ratio"] spRootOf := ok_root_of T
  have G_law_root_due : FnOk P w K mg base CX0 2 T.f_law_root_due T.fd_law_root_due ["_law_ratio"] (spRootIn K) := ok_law_root_due T
  have G_ratio_text : FnOk P w K mg base CX0 6 T.f_ratio_text T.fd_ratio_text ["ratio"] spTxtC := ok_ratio_text T
  have G_law_text_of : FnOk P w K mg base CX0 1 T.f_law_text_of T.fd_law_text_of ["_law_ratio"] (spTxt K) := ok_law_text_of T
  have G_is_ratio : FnOk P w K mg base CX0 5 T.f_is_ratio T.fd_is_ratio ["value"] spRatIn := ok_is_ratio T
  refine T.F_law_pair_right.ok sc_law_pair_right (fun vs H Q E h => ?_) (fun cdv A outer s H vs Q E hr h => ?_)
  · obtain ⟨d, a, b, a0, a1, b0, b1, rfl, _⟩ := h
    rfl
  · obtain ⟨d, a, b, a0, a1, b0, b1, rfl, ha, hb, ma, mb, q⟩ := h
    refine ⟨_, (PSs.nox (pss_cons (ps_par (i := 3) (j := 4) (by rfl) sc_law_pair_right.nd rfl rfl (by decide) rfl rfl (pa_cons (pe_call G_law_ratio_sum (hr.mono (by decide)) (by rfl) T.g_law_ratio_sum T.F_law_ratio_sum.kp T.b_law_ratio_sum .nil pass0 (pa_cons (pv 1) (pa_cons (pv 2) pa_nil))) (pa_cons (pe_call G_law_ratio_product (hr.mono (by decide)) (by rfl) T.g_law_ratio_product T.F_law_ratio_product.kp T.b_law_ratio_product .nil pass0 (pa_cons (pv 1) (pa_cons (pv 2) pa_nil))) pa_nil)) (by rfl))
    (pss_cons (ps_if (pw_or (pt_cmpR (op_neD (hu64 hr)) (pe_call G_plus hr (by rfl) T.g_plus T.F_plus.kp T.b_plus .nil pass0 (pa_cons (pv 1) (pa_cons (pv 2) pa_nil))) (pv 3) (nomark _)) (pw_or (pt_cmpR (op_neD (hu64 hr)) (pe_call G_minus hr (by rfl) T.g_minus T.F_minus.kp T.b_minus .nil pass0 (pa_cons (pv 3) (pa_cons (pv 2) pa_nil))) (pv 1) (nomark _)) (pw_or1 (pt_cmpR (op_neD (hu64 hr)) (pe_call G_times hr (by rfl) T.g_times T.F_times.kp T.b_times .nil pass0 (pa_cons (pv 1) (pa_cons (pv 2) pa_nil))) (pv 4) (nomark _))))).pt
      (pss_one (ps_ret pe_bl))
      pss_nil)
    (Evl.pss_cut (ps_if (pt_cmpR op_ne (pe_ix ix_tup (pv 2) pe_int (fun _ _ => rfl)) pe_int (nomark _))
      (pss_cons (ps_set (i := 5) sc_law_pair_right.nd rfl (.inl rfl) (pe_call G_law_lowest (hr.mono (by decide)) (by rfl) T.g_law_lowest T.F_law_lowest.kp T.b_law_lowest .nil pass0 (pa_cons (pe_op op_mulW (pe_ix ix_tup (pv 1) pe_int (fun _ _ => rfl)) (pe_ix ix_tup (pv 2) pe_int (fun _ _ => rfl))) (pa_cons (pe_op op_mulW (pe_ix ix_tup (pv 1) pe_int (fun _ _ => rfl)) (pe_ix ix_tup (pv 2) pe_int (fun _ _ => rfl))) pa_nil))))
      (pss_one (ps_if (pw_or (pt_cmpR (op_neD (hu64 hr)) (pe_call G_over hr (by rfl) T.g_over T.F_over.kp T.b_over .nil pass0 (pa_cons (pv 4) (pa_cons (pv 2) pa_nil))) (pv 1) (nomark _)) (pw_or1 (pt_cmpR (op_neD (hu64 hr)) (pe_call G_over hr (by rfl) T.g_over T.F_over.kp T.b_over .nil pass0 (pa_cons (pv 1) (pa_cons (pv 2) pa_nil))) (pv 5) (nomark _)))).pt
        (pss_one (ps_ret pe_bl))
        pss_nil)))
      pss_nil)
    (pss_cons (ps_par (i := 6) (j := 7) (by rfl) sc_law_pair_right.nd rfl rfl (by decide) rfl rfl (pa_cons (pe_op op_mulW (pe_ix ix_tup (pv 1) pe_int (fun _ _ => rfl)) (pe_ix ix_tup (pv 2) pe_int (fun _ _ => rfl))) (pa_cons (pe_op op_mulW (pe_ix ix_tup (pv 2) pe_int (fun _ _ => rfl)) (pe_ix ix_tup (pv 1) pe_int (fun _ _ => rfl))) pa_nil)) (by rfl))
    (pss_cons (ps_if (pw_or (pt_cmpR op_ne (pe_call G_compare hr (by rfl) T.g_compare T.F_compare.kp T.b_compare .nil pass0 (pa_cons (pv 1) (pa_cons (pv 2) pa_nil))) (pe_op op_sub (pe_callTy call_int1 (by rfl) T.z_int (by decide +kernel) (pa_cons (pe_cmpR op_gt (pv 6) (pv 7) (nomark _)) pa_nil)) (pe_callTy call_int1 (by rfl) T.z_int (by decide +kernel) (pa_cons (pe_cmpR op_lt (pv 6) (pv 7) (nomark _)) pa_nil))) (nomark _)) (pw_or1 (pt_cmpR op_ne (pe_call G_compare hr (by rfl) T.g_compare T.F_compare.kp T.b_compare .nil pass0 (pa_cons (pv 2) (pa_cons (pv 1) pa_nil))) (pe_op op_sub pe_int (pe_call G_compare hr (by rfl) T.g_compare T.F_compare.kp T.b_compare .nil pass0 (pa_cons (pv 1) (pa_cons (pv 2) pa_nil)))) (nomark _)))).pt
      (pss_one (ps_ret pe_bl))
      pss_nil)
    (pss_cons (ps_set (i := 8) sc_law_pair_right.nd rfl (.inl rfl) (pe_call G_law_ratio_product (hr.mono (by decide)) (by rfl) T.g_law_ratio_product T.F_law_ratio_product.kp T.b_law_ratio_product .nil pass0 (pa_cons (pv 1) (pa_cons (pv 1) pa_nil))))
    (pss_cons (ps_for PassesOwn.never (by rfl) (pi_tup (pe_tup (pa_cons (pv 1) (pa_cons (pv 8) (pa_cons (pe_call G_law_ratio_product (hr.mono (by decide)) (by rfl) T.g_law_ratio_product T.F_law_ratio_product.kp T.b_law_ratio_product .nil pass0 (pa_cons (pv 8) (pa_cons (pe_tup (pa_cons pe_int (pa_cons pe_int pa_nil))) pa_nil))) (pa_cons (pe_tup (pa_cons (pe_op op_sub pe_int (pe_ix ix_tup (pv 8) pe_int (fun _ _ => rfl))) (pa_cons (pe_ix ix_tup (pv 8) pe_int (fun _ _ => rfl)) pa_nil))) pa_nil)))))) (pg_name (i := 9) sc_law_pair_right.nd rfl (.inl rfl))
      (pss_one (ps_if (pw_or (pt_cmpR (op_neD (hu64 hr)) (pe_call G_root_of (hr.mono (by decide)) (by rfl) T.g_root_of T.F_root_of.kp T.b_root_of .nil pass0 (pa_cons (pv 9) pa_nil)) (pe_call G_law_root_due (hr.mono (by decide)) (by rfl) T.g_law_root_due T.F_law_root_due.kp T.b_law_root_due .nil pass0 (pa_cons (pv 9) pa_nil)) (nomark _)) (pw_or (pt_cmpR op_ne (pe_call G_ratio_text (hr.mono (by decide)) (by rfl) T.g_ratio_text T.F_ratio_text.kp T.b_ratio_text .nil pass0 (pa_cons (pv 9) pa_nil)) (pe_call G_law_text_of (hr.mono (by decide)) (by rfl) T.g_law_text_of T.F_law_text_of.kp T.b_law_text_of .nil pass0 (pa_cons (pv 9) pa_nil)) (nomark _)) (pw_or1 (pt_not (pt_val (pe_call G_is_ratio (hr.mono (by decide)) (by rfl) T.g_is_ratio T.F_is_ratio.kp T.b_is_ratio .nil pass0 (pa_cons (pv 9) pa_nil))))))).pt
        (pss_one (ps_ret pe_bl))
        pss_nil)))
    (pss_one (ps_ret (pe_cmpR (op_eqD (hu64 hr)) (pe_call G_root_of (hr.mono (by decide)) (by rfl) T.g_root_of T.F_root_of.kp T.b_root_of .nil pass0 (pa_cons (pv 8) pa_nil)) (pe_tup (pa_cons (pe_callB call_abs (by rfl) T.z_abs (by decide +kernel) (pa_cons (pe_ix ix_tup (pv 1) pe_int (fun _ _ => rfl)) pa_nil)) (pa_cons (pe_ix ix_tup (pv 1) pe_int (fun _ _ => rfl)) pa_nil))) (nomark _)))))))))))), ?_⟩
    have ka := ma.ok
    have kb := mb.ok
    have hd : dMul a0 a1 b0 b1 ≠ 0 := mul_ne ma.pos mb.pos
    have kt : RatOk (low (nPlus a0 a1 b0 b1) (dMul a0 a1 b0 b1)).1 (low (nPlus a0 a1 b0 b1) (dMul a0 a1 b0 b1)).2 := by
      refine low_ok hd ?_ (Nat.le_trans (b30 ma.bv mb.bv) (by decide))
      have h1 := b30 ma.bu mb.bv
      have h2 := b30 mb.bu ma.bv
      show (a0 * b1 + b0 * a1).natAbs ≤ 10 ^ 59
      have h3 := Int.natAbs_add_le (a0 * b1) (b0 * a1)
      omega
    have kp : RatOk (low (nTimes a0 a1 b0 b1) (dMul a0 a1 b0 b1)).1 (low (nTimes a0 a1 b0 b1) (dMul a0 a1 b0 b1)).2 := low_ok hd (Nat.le_trans (b30 ma.bu mb.bu) (by decide)) (Nat.le_trans (b30 ma.bv mb.bv) (by decide))
    have hmb := minus_back ma mb
    have hob := over_back ma mb
    -- total, product
    refine ⟨_, rfl, _, rfl, a, b, a0, a1, b0, b1, rfl, SqT.of ha, SqT.of hb, ka.sms kb, hd, fun p1 n1 => ?_⟩
    have s1 := same_upd0 (o := tup2 (low (nPlus a0 a1 b0 b1) (dMul a0 a1 b0 b1))) n1
    refine ⟨_, rfl, _, rfl, a, b, a0, a1, b0, b1, rfl, SqT.of (s1 _ _ ha), SqT.of (s1 _ _ hb), ka.sms kb, hd, fun p2 n2 => ⟨_, _, rfl, ?_⟩⟩
    have s2 := same_upd0 (o := tup2 (low (nTimes a0 a1 b0 b1) (dMul a0 a1 b0 b1))) n2
    have hp1 := s2 _ _ (upd_same (H := H) (a := p1) (o := tup2 (low (nPlus a0 a1 b0 b1) (dMul a0 a1 b0 b1))))
    have hp2 := upd_same (H := upd H p1 (tup2 (low (nPlus a0 a1 b0 b1) (dMul a0 a1 b0 b1)))) (a := p2) (o := tup2 (low (nTimes a0 a1 b0 b1) (dMul a0 a1 b0 b1)))
    have s12 : Same H (upd (upd H p1 (tup2 (low (nPlus a0 a1 b0 b1) (dMul a0 a1 b0 b1)))) p2 (tup2 (low (nTimes a0 a1 b0 b1) (dMul a0 a1 b0 b1)))) := s1.trans s2
    generalize upd (upd H p1 (tup2 (low (nPlus a0 a1 b0 b1) (dMul a0 a1 b0 b1)))) p2 (tup2 (low (nTimes a0 a1 b0 b1) (dMul a0 a1 b0 b1))) = H2 at hp1 hp2 s12 ⊢
    have ha2 := s12 _ _ ha
    have hb2 := s12 _ _ hb
    -- plus, minus, times
    refine ⟨_, rfl, _, rfl, a, b, a0, a1, b0, b1, rfl, ha2, hb2, ka, kb, hd, fun p3 H3 s3 n3 h3 => ⟨_, rfl, ne_same (sq2 h3) (sq2 (s3 _ _ hp1)) ⟨_, rfl, iteF ?_⟩⟩⟩
    refine ⟨_, rfl, _, rfl, p1, b, (low (nPlus a0 a1 b0 b1) (dMul a0 a1 b0 b1)).1, (low (nPlus a0 a1 b0 b1) (dMul a0 a1 b0 b1)).2, b0, b1, rfl, s3 _ _ hp1, s3 _ _ hb2, kt, kb, mul_ne kt.2.2.1 mb.pos, fun p4 H4 s4 n4 h4 => ?_⟩
    rw [hmb] at h4
    have s24 := s3.trans s4
    refine ⟨_, rfl, ne_same (sq2 h4) (sq2 (s24 _ _ ha2)) ⟨_, rfl, iteF ?_⟩⟩
    refine ⟨_, rfl, _, rfl, a, b, a0, a1, b0, b1, rfl, s24 _ _ ha2, s24 _ _ hb2, ka, kb, hd, fun p5 H5 s5 n5 h5 => ⟨_, rfl, ne_same (sq2 h5) (sq2 (s5 _ _ (s24 _ _ hp2))) ⟨_, rfl, iteF ?_⟩⟩⟩
    have s25 := s24.trans s5
    -- over
    refine ⟨fun σ H' => (∃ y5, σ = [some (.ref d), some (.ref a), some (.ref b), some (.ref p1), some (.ref p2), y5, none, none, none, none]) ∧ Same H2 H', ?_, fun σ H6 hM => ?_⟩
    · refine ⟨_, rfl, b, _, 0, _, rfl, rfl, SqT.of (s25 _ _ hb2), ix0, rfl, _, rfl, ?_⟩
      by_cases c : b0 = 0
      · rw [decide_eq_true (show V.int b0 = V.int 0 by rw [c])]
        exact iteF ⟨⟨_, rfl⟩, s25⟩
      · rw [decide_eq_false fun z => c (V.int.inj z)]
        have hdo : dOver a0 a1 b0 b1 ≠ 0 := Int.mul_ne_zero (Int.ne_of_gt ma.pos) c
        refine iteT ⟨_, rfl, a, _, 0, _, rfl, rfl, SqT.of (s25 _ _ ha2), ix0, _, rfl, b, _, 1, _, rfl, rfl, SqT.of (s25 _ _ hb2), ix1, _, _, rfl, rfl, sm_mul (sh_sm ka.1) (sh_sm kb.2.1), _, rfl, a, _, 1, _, rfl, rfl, SqT.of (s25 _ _ ha2), ix1, _, rfl, b, _, 0, _, rfl, rfl, SqT.of (s25 _ _ hb2), ix0, _, _, rfl, rfl, sm_mul (sh_sm ka.2.1) (sh_sm kb.1), ?_⟩
        refine ⟨_, _, rfl, hdo, lt801 (sm_lt (sh_sm ka.2.1) (sh_sm kb.1)), fun p6 n6 => ?_⟩
        have s6 := same_upd0 (o := tup2 (low (a0 * b1) (a1 * b0))) n6
        have h6 := upd_same (H := H5) (a := p6) (o := tup2 (low (a0 * b1) (a1 * b0)))
        have s26 := s25.trans s6
        refine ⟨_, rfl, _, rfl, p2, b, (low (nTimes a0 a1 b0 b1) (dMul a0 a1 b0 b1)).1, (low (nTimes a0 a1 b0 b1) (dMul a0 a1 b0 b1)).2, b0, b1, rfl, s26 _ _ hp2, s26 _ _ hb2, kp, kb, Int.mul_ne_zero (Int.ne_of_gt kp.2.2.1) c, fun p7 H7 s7 n7 h7 => ?_⟩
        rw [hob c] at h7
        have s27 := s26.trans s7
        refine ⟨_, rfl, ne_same (sq2 h7) (sq2 (s27 _ _ ha2)) ⟨_, rfl, iteF ?_⟩⟩
        exact ⟨_, rfl, _, rfl, a, b, a0, a1, b0, b1, rfl, s27 _ _ ha2, s27 _ _ hb2, ka, kb, hdo, fun p8 H8 s8 n8 h8 => ⟨_, rfl, ne_same (sq2 h8) (sq2 (s8 _ _ (s7 _ _ h6))) ⟨_, rfl, iteF ⟨⟨_, rfl⟩, s27.trans s8⟩⟩⟩⟩
    · obtain ⟨⟨y5, rfl⟩, s26⟩ := hM
      have ha6 := s26 _ _ ha2
      have hb6 := s26 _ _ hb2
      -- compare
      refine ⟨_, rfl, a, _, 0, _, rfl, rfl, SqT.of ha6, ix0, _, rfl, b, _, 1, _, rfl, rfl, SqT.of hb6, ix1, _, _, rfl, rfl, sm_mul (sh_sm ka.1) (sh_sm kb.2.1), _, rfl, b, _, 0, _, rfl, rfl, SqT.of hb6, ix0, _, rfl, a, _, 1, _, rfl, rfl, SqT.of ha6, ix1, _, _, rfl, rfl, sm_mul (sh_sm kb.1) (sh_sm ka.2.1), _, _, rfl, ?_⟩
      refine ⟨_, rfl, _, rfl, a, b, a0, a1, b0, b1, rfl, ha6, hb6, ka, kb, fun H7 s7 => ?_⟩
      refine ⟨_, rfl, _, rfl, _, _, rfl, rfl, .inr ⟨_, rfl, _, rfl, _, rfl, _, _, rfl, rfl, .inr ⟨_, rfl, _, _, rfl, rfl, rfl, _, rfl, ?_⟩⟩⟩
      rw [decide_eq_true (show V.int (cmpI (a0 * b1) (b0 * a1)) = V.int ((if decide (b0 * a1 < a0 * b1) then 1 else 0) - (if decide (a0 * b1 < b0 * a1) then 1 else 0)) from rfl)]
      refine iteF ⟨_, rfl, _, rfl, b, a, b0, b1, a0, a1, rfl, s7 _ _ hb6, s7 _ _ ha6, kb, ka, fun H8 s8 => ⟨_, rfl, _, rfl, a, b, a0, a1, b0, b1, rfl, s8 _ _ (s7 _ _ ha6), s8 _ _ (s7 _ _ hb6), ka, kb, fun H9 s9 => ⟨_, _, rfl, rfl, rfl, _, rfl, ?_⟩⟩⟩
      rw [decide_eq_true (show V.int (cmpI (b0 * a1) (a0 * b1)) = V.int (0 - cmpI (a0 * b1) (b0 * a1)) by rw [cmp_swap])]
      have s29 := s26.trans (s7.trans (s8.trans s9))
      -- the square
      refine iteF ⟨_, rfl, _, rfl, a, a, a0, a1, a0, a1, rfl, SqT.of (s29 _ _ ha2), SqT.of (s29 _ _ ha2), ka.sms ka, mul_ne ma.pos ma.pos, fun p10 n10 => ?_⟩
      rw [sq_low ma]
      have s10 := same_upd0 (o := tup2 (a0 * a0, a1 * a1)) n10
      have h10 := upd_same (H := H9) (a := p10) (o := tup2 (a0 * a0, a1 * a1))
      have s210 := s29.trans s10
      generalize upd H9 p10 (tup2 (a0 * a0, a1 * a1)) = H10 at s10 h10 s210 ⊢
      have ha10 := s210 _ _ ha2
      have hsq : (a0 * a0).natAbs ≤ 10 ^ 30 := b30 ma.bu ma.bu
      have hsq2 : (a1 * a1).natAbs ≤ 10 ^ 30 := b30 ma.bv ma.bv
      have psq : 0 < a1 * a1 := Int.mul_pos ma.pos ma.pos
      have ksq : RatOk (a0 * a0) (a1 * a1) := ⟨sh_of (Nat.lt_of_le_of_lt hsq (by decide)), sh_of (Nat.lt_of_le_of_lt hsq2 (by decide)), psq, cop_sq ma.cop⟩
      have kneg : RatOk (0 - a0 * a0) (a1 * a1) := by
        refine ⟨sh_of ?_, ksq.2.1, psq, ?_⟩
        · rw [Int.zero_sub, Int.natAbs_neg]
          exact Nat.lt_of_le_of_lt hsq (by decide)
        · rw [Int.zero_sub, Int.natAbs_neg]
          exact ksq.2.2.2
      have hd2 : dMul (a0 * a0) (a1 * a1) 2 1 ≠ 0 := by
        show a1 * a1 * 1 ≠ 0
        omega
      have k2 : RatOk (low (nTimes (a0 * a0) (a1 * a1) 2 1) (dMul (a0 * a0) (a1 * a1) 2 1)).1 (low (nTimes (a0 * a0) (a1 * a1) 2 1) (dMul (a0 * a0) (a1 * a1) 2 1)).2 := by
        refine low_ok hd2 ?_ ?_
        · show (a0 * a0 * 2).natAbs ≤ 10 ^ 59
          omega
        · show (a1 * a1 * 1).natAbs ≤ 10 ^ 59
          omega
      have s2m : sm 2 ∧ sm 1 := ⟨by show 2 < 2 ^ 400; decide, by show 1 < 2 ^ 400; decide⟩
      have two2 : 2 ≤ sizeLine := by decide
      -- the four ratios
      refine ⟨_, rfl, _, rfl, _, rfl, two2, fun p11 n11 => ?_⟩
      have s11 := same_upd0 (o := tup2 (2, 1)) n11
      refine ⟨p10, p11, a0 * a0, a1 * a1, 2, 1, rfl, SqT.of (s11 _ _ h10), SqT.of upd_same, ⟨sh_sm ksq.1, sh_sm ksq.2.1, s2m.1, s2m.2⟩, hd2, fun p12 n12 => ?_⟩
      have s12' := same_upd0 (o := tup2 (low (nTimes (a0 * a0) (a1 * a1) 2 1) (dMul (a0 * a0) (a1 * a1) 2 1))) n12
      have s1012 := s11.trans s12'
      have h12 := upd_same (H := upd H10 p11 (tup2 (2, 1))) (a := p12) (o := tup2 (low (nTimes (a0 * a0) (a1 * a1) 2 1) (dMul (a0 * a0) (a1 * a1) 2 1)))
      refine ⟨_, rfl, p10, _, 0, _, rfl, rfl, SqT.of (s1012 _ _ h10), ix0, _, _, rfl, rfl, _, rfl, p10, _, 1, _, rfl, rfl, SqT.of (s1012 _ _ h10), ix1, two2, fun p13 n13 => ?_⟩
      have s13 := same_upd0 (o := tup2 (0 - a0 * a0, a1 * a1)) n13
      refine ⟨(by show 4 ≤ sizeLine; decide), fun pt nt => ?_⟩
      have st := same_upd0 (o := .tup [.ref a, .ref p10, .ref p12, .ref p13]) nt
      have h13 := st _ _ (upd_same (H := upd (upd H10 p11 (tup2 (2, 1))) p12 (tup2 (low (nTimes (a0 * a0) (a1 * a1) 2 1) (dMul (a0 * a0) (a1 * a1) 2 1)))) (a := p13) (o := tup2 (0 - a0 * a0, a1 * a1)))
      have h12' := st _ _ (s13 _ _ h12)
      have s10t := s1012.trans (s13.trans st)
      have hpt := upd_same (H := upd (upd (upd H10 p11 (tup2 (2, 1))) p12 (tup2 (low (nTimes (a0 * a0) (a1 * a1) 2 1) (dMul (a0 * a0) (a1 * a1) 2 1)))) p13 (tup2 (0 - a0 * a0, a1 * a1))) (a := pt) (o := .tup [.ref a, .ref p10, .ref p12, .ref p13])
      show _
      generalize upd (upd (upd (upd H10 p11 (tup2 (2, 1))) p12 (tup2 (low (nTimes (a0 * a0) (a1 * a1) 2 1) (dMul (a0 * a0) (a1 * a1) 2 1)))) p13 (tup2 (0 - a0 * a0, a1 * a1))) pt (.tup [.ref a, .ref p10, .ref p12, .ref p13]) = H14 at h13 h12' s10t hpt ⊢
      have ha14 := s10t _ _ ha10
      have h14 := s10t _ _ h10
      refine ⟨pt, rfl, ⟨_, SqT.of hpt⟩, for_tup (xs := [.ref a, .ref p10, .ref p12, .ref p13]) (fun i σ H' => (∃ y5 y6 y7 y9, σ = [some (.ref d), some (.ref a), some (.ref b), some (.ref p1), some (.ref p2), y5, y6, y7, some (.ref p10), y9]) ∧ Same H14 H') ⟨⟨_, _, _, _, rfl⟩, Same.refl _⟩ (fun i σ H' _ hP => SqT.of (hP.2 _ _ hpt)) (fun i x σ H' hx hP => ?_) (fun σ H' hP => ?_)⟩
      · obtain ⟨⟨y5, y6, y7, y9, rfl⟩, s15⟩ := hP
        obtain ⟨r, u, v, hr1, hk, rfl⟩ : ∃ (r : Addr) (u v : Int), H14 r = some (tup2 (u, v)) ∧ RatOk u v ∧ x = .ref r := by
          have hm := List.mem_of_getElem? hx
          simp only [List.mem_cons, List.not_mem_nil, or_false] at hm
          rcases hm with e | e | e | e
          · exact ⟨a, a0, a1, ha14, ka, e⟩
          · exact ⟨p10, _, _, h14, ksq, e⟩
          · exact ⟨p12, _, _, h12', k2, e⟩
          · exact ⟨p13, _, _, h13, kneg, e⟩
        have hr2 := s15 _ _ hr1
        have su := sh_sm hk.1
        have sv := sh_sm hk.2.1
        cases e : rtR u v with
        | none =>
          refine ⟨_, rfl, r, u, v, rfl, hr2, hk, fun _ H16 s16 => ⟨_, rfl, r, u, v, rfl, SqT.of (s16 _ _ hr2), su, sv, hk.2.2.1, fun _ => ne_none ⟨_, rfl, iteF ?_⟩, fun x y e' => ?_⟩, fun x y e' => ?_⟩
          · have hr3 := s16 _ _ hr2
            refine ⟨_, rfl, r, u, v, rfl, hr3, hk, fun H17 s17 => ⟨_, rfl, r, u, v, rfl, SqT.of (s17 _ _ hr3), sm_fw su, sm_fw sv, rfl, _, rfl, ?_⟩⟩
            rw [decide_eq_true rfl]
            refine iteF ⟨_, rfl, .inl ⟨r, _, rfl, s17 _ _ hr3, (by show 2 ≤ 1000; decide), two_srt, fun H18 s18 => ⟨true, (by rw [hk.ratB]), iteF ⟨⟨_, _, _, _, rfl⟩, s15.trans (s16.trans (s17.trans s18))⟩⟩⟩⟩
          · rw [e] at e'
            cases e'
          · rw [e] at e'
            cases e'
        | some z =>
          obtain ⟨zx, zy⟩ := z
          refine ⟨_, rfl, r, u, v, rfl, hr2, hk, fun e' => ?_, fun x y e' p15 H15 s15' n15 h15 => ⟨_, rfl, r, u, v, rfl, SqT.of (s15' _ _ hr2), su, sv, hk.2.2.1, fun e2 => ?_, fun x2 y2 e2 p16 n16 => ?_⟩⟩
          · rw [e] at e'
            cases e'
          · rw [e] at e2
            cases e2
          · have ez : (x, y) = (x2, y2) := Option.some.inj (e'.symm.trans e2)
            have s16' := same_upd0 (o := tup2 (x2, y2)) n16
            have s16 := s15'.trans s16'
            have hr3 := s16 _ _ hr2
            rw [ez] at h15
            refine ne_same (ns := [x2, y2]) (SqT.of (s16' _ _ h15)) (SqT.of upd_same) ⟨_, rfl, iteF ?_⟩
            refine ⟨_, rfl, r, u, v, rfl, hr3, hk, fun H17 s17 => ⟨_, rfl, r, u, v, rfl, SqT.of (s17 _ _ hr3), sm_fw su, sm_fw sv, rfl, _, rfl, ?_⟩⟩
            rw [decide_eq_true rfl]
            refine iteF ⟨_, rfl, .inl ⟨r, _, rfl, s17 _ _ hr3, (by show 2 ≤ 1000; decide), two_srt, fun H18 s18 => ⟨true, (by rw [hk.ratB]), iteF ⟨⟨_, _, _, _, rfl⟩, s15.trans (s16.trans (s17.trans s18))⟩⟩⟩⟩
      · obtain ⟨⟨y5, y6, y7, y9, rfl⟩, s15⟩ := hP
        have e : rtR (a0 * a0) (a1 * a1) = some (((a0.natAbs : Nat) : Int), ((a1.natAbs : Nat) : Int)) := rtR_some (rt_sq a0) (rt_sq a1)
        refine ⟨_, rfl, p10, a0 * a0, a1 * a1, rfl, s15 _ _ h14, ksq, fun e' => ?_, fun x y e' p16 H16 s16 n16 h16 => ?_⟩
        · rw [e] at e'
          cases e'
        · have ez : (x, y) = (((a0.natAbs : Nat) : Int), ((a1.natAbs : Nat) : Int)) := Option.some.inj (e'.symm.trans e)
          rw [ez] at h16
          have ha16 := s16 _ _ (s15 _ _ ha14)
          refine ⟨_, rfl, a, _, 0, _, rfl, rfl, SqT.of ha16, ix0, a0, rfl, _, rfl, a, _, 1, _, rfl, rfl, SqT.of ha16, ix1, two2, fun p17 n17 => ?_⟩
          rw [abs_nat]
          have s17 := same_upd0 (o := tup2 (((a0.natAbs : Nat) : Int), a1)) n17
          have ea : ((a1.natAbs : Nat) : Int) = a1 := by
            have := ma.pos
            omega
          rw [ea] at h16
          refine eq_same (ns := [((a0.natAbs : Nat) : Int), a1]) (SqT.of (s17 _ _ h16)) (SqT.of upd_same) ?_
          exact q _ (s12.trans (s210.trans (s10t.trans (s15.trans (s16.trans s17)))))
end
end K00

set_option Elab.async false
set_option linter.all false
set_option maxRecDepth 100000
set_option maxHeartbeats 4000000
namespace K00
open PySem PySem.Spec PyProof.Rows L2 MyR
section
variable {P : Program} {w : World} {K : PySem.W.Frag} {mg : Str → Option Value} {base : Heap}
@[elab_as_elim] theorem gen_upd {G : Hp → Prop} (H : Hp) (p : Addr) (o : HO) (n : H p = none) (h : ∀ H', Same H H' → H' p = some o → G H') : G (upd H p o) := h _ (same_upd0 n) upd_same
theorem cp14 : CPow 10 14 := ⟨by decide, by decide, by decide⟩
theorem low_exact {t b : Int} (hb : b ≠ 0) : low (t * b) (0 - b) = (0 - t, 1) := by
  refine low_uniq (by omega) (by decide) (Nat.gcd_one_right _) ?_
  rw [Int.mul_one, Int.zero_sub, Int.zero_sub, Int.neg_mul_neg]
theorem low_whole {t b : Int} (hb : b ≠ 0) : low (t * b) b = (t, 1) := by
  refine low_uniq hb (by decide) (Nat.gcd_one_right _) ?_
  rw [Int.mul_one]
theorem ok_law_right (T : Facts K mg) : FnOk P w K mg base CX0 9 T.f_law_right T.fd_law_right ["_law_dice_here"] spRight := by
  have G_law_roll : FnOk P w K mg base CX0 1 T.f_law_roll T.fd_law_roll ["_law_dice_here", "_law_total"] spRoll2 := (ok_law_roll T).imp roll2
  have G_law_pick : FnOk P w K mg base CX0 2 T.f_law_pick T.fd_law_pick ["_law_dice_here", "_law_items"] spPick2 := (ok_law_pick T).imp pick2
  have G_law_near : FnOk P w K mg base CX0 2 T.f_law_near T.fd_law_near ["_law_dice_here", "_law_most"] spNear := ok_law_near T
  have G_law_lowest : FnOk P w K mg base CX0 2 T.f_law_lowest T.fd_law_lowest ["_law_top", "_law_bottom"] spLow := ok_law_lowest T
  have G_law_some_ratio : FnOk P w K mg base CX0 3 T.f_law_some_ratio T.fd_law_some_ratio ["_law_dice_here", "_law_most"] spSome := ok_law_some_ratio T
  have G_lowest : FnOk P w K mg base CX0 4 T.f_lowest T.fd_lowest ["top", "bottom"] spLowest := ok_lowest T
  have G_is_ratio : FnOk P w K mg base CX0 5 T.f_is_ratio T.fd_is_ratio ["value"] spRatIn := ok_is_ratio T
  have G_law_pair_right : FnOk P w K mg base CX0 8 T.f_law_pair_right T.fd_law_pair_right ["_law_dice_here", "_law_one", "_law_other"] spPairR := ok_law_pair_right T
  refine T.F_law_right.ok sc_law_right (fun vs H Q E h => ?_) (fun cdv A outer s H vs Q E hr h => ?_)
  · obtain ⟨a, rfl, _⟩ := h
    rfl
  · obtain ⟨a, rfl, hd, q⟩ := h
    refine ⟨_, (PSs.nox (pss_cons (ps_set (i := 1) sc_law_right.nd rfl (.inl rfl) (pe_call G_law_pick (hr.mono (by decide)) (by rfl) T.g_law_pick T.F_law_pick.kp T.b_law_pick .nil pass0 (pa_cons (pv 0) (pa_cons (pe_lst (pa_cons pe_int (pa_cons pe_int (pa_cons (pe_op op_pow pe_int pe_int) pa_nil)))) pa_nil))))
    (pss_cons (ps_par (i := 2) (j := 3) (by rfl) sc_law_right.nd rfl rfl (by decide) rfl rfl (pa_cons (pe_call G_law_some_ratio (hr.mono (by decide)) (by rfl) T.g_law_some_ratio T.F_law_some_ratio.kp T.b_law_some_ratio .nil pass0 (pa_cons (pv 0) (pa_cons (pv 1) pa_nil))) (pa_cons (pe_call G_law_some_ratio (hr.mono (by decide)) (by rfl) T.g_law_some_ratio T.F_law_some_ratio.kp T.b_law_some_ratio .nil pass0 (pa_cons (pv 0) (pa_cons (pv 1) pa_nil))) pa_nil)) (by rfl))
    (pss_cons (ps_par (i := 4) (j := 5) (by rfl) sc_law_right.nd rfl rfl (by decide) rfl rfl (pa_cons (pe_call G_law_near (hr.mono (by decide)) (by rfl) T.g_law_near T.F_law_near.kp T.b_law_near .nil pass0 (pa_cons (pv 0) (pa_cons (pv 1) pa_nil))) (pa_cons (pe_op op_add pe_int (pe_call G_law_roll (hr.mono (by decide)) (by rfl) T.g_law_roll T.F_law_roll.kp T.b_law_roll .nil pass0 (pa_cons (pv 0) (pa_cons (pv 1) pa_nil)))) pa_nil)) (by rfl))
    (pss_cons (ps_set (i := 6) sc_law_right.nd rfl (.inl rfl) (pe_op op_add (pe_op op_mulW (pe_call G_law_near (hr.mono (by decide)) (by rfl) T.g_law_near T.F_law_near.kp T.b_law_near .nil pass0 (pa_cons (pv 0) (pa_cons pe_int pa_nil))) (pv 5)) (pv 5)))
    (pss_cons (ps_if (pw_or (pt_cmpR (op_neD (hu64 hr)) (pe_call G_lowest (hr.mono (by decide)) (by rfl) T.g_lowest T.F_lowest.kp T.b_lowest .nil pass0 (pa_cons (pe_op op_mulW (pv 4) (pv 5)) (pa_cons (pe_op op_sub pe_int (pv 5)) pa_nil))) (pe_tup (pa_cons (pe_op op_sub pe_int (pv 4)) (pa_cons pe_int pa_nil))) (nomark _)) (pw_or1 (pt_cmpR (op_neD (hu64 hr)) (pe_call G_lowest (hr.mono (by decide)) (by rfl) T.g_lowest T.F_lowest.kp T.b_lowest .nil pass0 (pa_cons (pv 4) (pa_cons (pv 5) pa_nil))) (pe_call G_law_lowest (hr.mono (by decide)) (by rfl) T.g_law_lowest T.F_law_lowest.kp T.b_law_lowest .nil pass0 (pa_cons (pv 4) (pa_cons (pv 5) pa_nil))) (nomark _)))).pt
      (pss_one (ps_ret pe_bl))
      pss_nil)
    (pss_cons (ps_if (pt_cmpR (op_neD (hu64 hr)) (pe_call G_lowest (hr.mono (by decide)) (by rfl) T.g_lowest T.F_lowest.kp T.b_lowest .nil pass0 (pa_cons (pv 6) (pa_cons (pv 5) pa_nil))) (pe_tup (pa_cons (pe_op op_fdivZ (pv 6) (pv 5)) (pa_cons pe_int pa_nil))) (nomark _))
      (pss_one (ps_ret pe_bl))
      pss_nil)
    (pss_cons (ps_set (i := 7) sc_law_right.nd rfl (.inl rfl) (pe_lst (pa_cons (pe_tup (pa_cons pe_int (pa_cons pe_int pa_nil))) (pa_cons (pe_tup (pa_cons pe_int (pa_cons pe_int pa_nil))) (pa_cons (pe_tup (pa_cons pe_int (pa_cons (pe_un un_neg pe_int) pa_nil))) (pa_cons (pe_tup (pa_cons pe_int (pa_cons pe_int pa_nil))) (pa_cons (pe_tup (pa_cons pe_int (pa_cons pe_int (pa_cons pe_int pa_nil)))) (pa_cons (pe_lst (pa_cons pe_int (pa_cons pe_int pa_nil))) (pa_cons (pe_tup (pa_cons pe_int pa_nil)) (pa_cons pe_str (pa_cons pe_non (pa_cons pe_int (pa_cons (pe_tup (pa_cons pe_bl (pa_cons pe_int pa_nil))) (pa_cons (pe_tup (pa_cons pe_int (pa_cons pe_bl pa_nil))) (pa_cons (pe_tup (pa_cons (pe_op op_pow pe_int pe_int) (pa_cons pe_int pa_nil))) pa_nil)))))))))))))))
    (pss_cons (ps_if (pt_cmpR (op_neD (hu64 hr)) (pe_lc (own := [("_law_value", 8)]) (g := (gName 8)) (by rfl) sc_law_right.nd (pi_list (pv 7)) (blkOk_by (N := N_law_right) (sc := defScope s_law_right) (by decide +kernel)) (fun _ _ _ _ _ => (pg_name (i := 8) sc_law_right.nd rfl (.inl rfl))) (fun _ _ _ _ _ => (pts_one (pt_val (pe_call G_is_ratio (hr.mono (by decide)) (by rfl) T.g_is_ratio T.F_is_ratio.kp T.b_is_ratio .nil pass0 (pa_cons (pv 8) pa_nil))))) (fun _ _ _ _ _ => (pv 8))) (pe_lst pa_nil) (nomark _))
      (pss_one (ps_ret pe_bl))
      pss_nil)
    (pss_one (ps_ret (pe_and (pe_call G_law_pair_right hr (by rfl) T.g_law_pair_right T.F_law_pair_right.kp T.b_law_pair_right .nil pass0 (pa_cons (pv 0) (pa_cons (pv 2) (pa_cons (pv 3) pa_nil)))) (pe_one (pe_call G_law_pair_right hr (by rfl) T.g_law_pair_right T.F_law_pair_right.kp T.b_law_pair_right .nil pass0 (pa_cons (pv 0) (pa_cons (pv 3) (pa_cons (pv 3) pa_nil))))))))))))))))), ?_⟩
    have e15 : (10 : Int) ^ 15 = 1000000000000000 := by decide
    refine ⟨_, rfl, 10, 14, rfl, rfl, cp14, (by show 3 ≤ sizeLine; decide), fun b nb => ⟨a, b, _, rfl, hd.same (same_upd0 nb), upd_same, hd.ne nb, (by show 0 < 3; decide), (by show 3 < 1000; decide), fun v H1 hv s1 d1 => ?_⟩⟩
    have s01 : Sx a H H1 := (Sx.of (same_upd0 nb)).trans s1
    obtain ⟨m, rfl, m1, m2⟩ : ∃ m : Int, v = .int m ∧ 1 ≤ m ∧ m ≤ 10 ^ 14 := by
      simp only [List.mem_cons, List.not_mem_nil, or_false] at hv
      rcases hv with e | e | e
      · exact ⟨3, e, by decide, by decide⟩
      · exact ⟨12, e, by decide, by decide⟩
      · exact ⟨10 ^ 14, e, by decide, by decide⟩
    have e14 : (10 : Int) ^ 14 = 100000000000000 := by decide
    rw [e14] at m2
    have m3 : m ≤ 10 ^ 15 := by rw [e15]; omega
    have n15 : (10 : Nat) ^ 15 = 1000000000000000 := by decide
    clear s1 nb
    refine ⟨_, rfl, _, rfl, a, m, rfl, d1, m1, m3, fun p1 H2 t1 b1 t1a b1a b1b s2 d2 n2 f2 h2 => ?_⟩
    refine ⟨_, rfl, _, rfl, a, m, rfl, d2, m1, m3, fun p2 H3 t2 b2 t2a b2a b2b s3 d3 n3 f3 h3 => ⟨_, _, rfl, ?_⟩⟩
    have md1 : Md (low t1 b1).1 (low t1 b1).2 := ⟨Nat.le_trans (low_le1 (by omega)) (by rw [n15]; omega), Nat.le_trans (low_le2 (by omega)) (by rw [n15]; omega), low_pos (by omega), low_cop (by omega)⟩
    have md2 : Md (low t2 b2).1 (low t2 b2).2 := ⟨Nat.le_trans (low_le1 (by omega)) (by rw [n15]; omega), Nat.le_trans (low_le2 (by omega)) (by rw [n15]; omega), low_pos (by omega), low_cop (by omega)⟩
    have h13 := s3 _ _ n2 h2
    have s03 := s01.trans (s2.trans s3)
    refine ⟨_, rfl, _, rfl, a, m, rfl, d3, by omega, m3, fun t H4 t4a t4b s4 d4 => ?_⟩
    refine ⟨_, rfl, _, rfl, a, m, rfl, d4, by omega, ?_, fun r H5 hr5 s5 d5 => ⟨_, _, rfl, rfl, _, _, rfl, ?_⟩⟩
    · refine Nat.lt_trans (PySem.Flt.log2_lt_of (k := 60) (by decide) ?_) (by decide)
      omega
    obtain ⟨u, hu⟩ : ∃ u : Int, 1 + (r : Int) = u := ⟨_, rfl⟩
    rw [show (some ((fun i j => V.int (i + j)) 1 (r : Int)) : Option V) = some (.int u) by rw [← hu]]
    have u1 : 1 ≤ u := by omega
    have u2 : u ≤ m := by omega
    have smt : ∀ x : Int, x.natAbs ≤ 10 ^ 59 → sm x := fun x h => by
      refine Nat.lt_of_le_of_lt h ?_
      decide
    have sht : ∀ x : Int, x.natAbs ≤ 10 ^ 59 → shV (.int x) = true := fun x h => sh_of (Nat.lt_of_le_of_lt h (by decide))
    have n59 : (10 : Nat) ^ 59 = 100000000000000000000000000000000000000000000000000000000000 := by decide
    have su : u.natAbs ≤ 10 ^ 15 := by rw [n15]; omega
    have stt : t.natAbs ≤ 10 ^ 15 := by rw [n15]; omega
    have ne : u ≠ 0 := by omega
    clear hr5 hu
    refine ⟨_, rfl, a, 9, rfl, d5, by decide, by decide, fun c H6 c1 c2 s6 d6 => ?_⟩
    have sc : c.natAbs ≤ 10 ^ 15 := by rw [n15]; omega
    have bcu := b30 sc su
    have btu := b30 stt su
    have n30 : (10 : Nat) ^ 30 = 1000000000000000000000000000000 := by decide
    rw [n15] at su stt sc
    rw [n30] at bcu btu
    rw [n59] at smt sht
    refine ⟨_, rfl, _, _, rfl, rfl, sm_mul (smt c (by omega)) (smt u (by omega)), _, rfl, _, _, rfl, rfl, ?_⟩
    -- lowest of a whole number
    refine ⟨_, rfl, _, rfl, _, _, rfl, rfl, sm_mul (smt t (by omega)) (smt u (by omega)), _, rfl, _, _, rfl, rfl, t * u, 0 - u, rfl, sht _ (by omega), sht _ (by omega), by omega, fun p3 nn3 => ?_⟩
    rw [low_exact ne]
    refine gen_upd H6 p3 (tup2 (0 - t, 1)) nn3 fun H7 g7 f7 => ?_
    refine ⟨_, rfl, _, _, rfl, rfl, (by show 2 ≤ sizeLine; decide), fun p4 nn4 => ?_⟩
    refine gen_upd H7 p4 (.tup [.int (0 - t), .int 1]) nn4 fun H8 g8 f8 => ?_
    refine ne_same (ns := [0 - t, 1]) (sq2 (g8 _ _ f7)) (SqT.of f8) ⟨_, rfl, iteF ?_⟩
    refine ⟨_, rfl, _, rfl, t, u, rfl, sht _ (by omega), sht _ (by omega), ne, fun p5 nn5 => ?_⟩
    refine gen_upd H8 p5 (tup2 (low t u)) nn5 fun H9 g9 f9 => ?_
    refine ⟨_, rfl, _, rfl, t, u, rfl, ne, Nat.lt_trans (show u.natAbs < 2 ^ 60 by omega) (Nat.pow_lt_pow_right (by decide) (by decide)), fun p6 nn6 => ?_⟩
    refine gen_upd H9 p6 (tup2 (low t u)) nn6 fun H10 g10 f10 => ?_
    refine ne_same (ns := [(low t u).1, (low t u).2]) (sq2 (g10 _ _ f9)) (sq2 f10) ⟨_, rfl, iteF ?_⟩
    have eP : c * u + u = (c + 1) * u := by rw [Int.add_mul, Int.one_mul]
    have bP : ((c + 1) * u).natAbs ≤ 10 ^ 59 := by rw [← eP, n59]; omega
    rw [n59] at bP
    refine ⟨.int ((c + 1) * u), (by show some (some (V.int (c * u + u))) = _; rw [eP]), .int u, rfl, _, u, rfl, sht _ bP, sht _ (by omega), ne, fun p7 nn7 => ?_⟩
    rw [low_whole ne]
    refine gen_upd H10 p7 (tup2 (c + 1, 1)) nn7 fun H11 g11 f11 => ?_
    refine ⟨.int ((c + 1) * u), (by show some (some (V.int (c * u + u))) = _; rw [eP]), .int u, rfl, _, _, rfl, rfl, ⟨ne, Nat.lt_trans (PySem.Flt.log2_lt_of (k := 60) (by decide) (by omega)) (by decide)⟩, (by show 2 ≤ sizeLine; decide), fun p8 nn8 => ?_⟩
    refine gen_upd H11 p8 (.tup [.int (((c + 1) * u).fdiv u), .int 1]) nn8 fun H12 g12 f12 => ?_
    rw [Int.mul_fdiv_cancel _ ne] at f12
    refine ne_same (ns := [c + 1, 1]) (sq2 (g12 _ _ f11)) (SqT.of f12) ⟨_, rfl, iteF ?_⟩
    have s6b : Same H6 H12 := g7.trans (g8.trans (g9.trans (g10.trans (g11.trans g12))))
    have d12 := d6.same s6b
    have s36 := s4.trans (s5.trans (s6.trans (Sx.of s6b)))
    have h12a := s36 _ _ n2 h13
    have h12b := s36 _ _ n3 h3
    have s012 := s03.trans s36
    clear f7 f8 f9 f10 f11 f12 g7 g8 g9 g10 g11 g12 nn3 nn4 nn5 nn6 nn7 nn8 s6b
    have z1 : 1 ≤ sizeLine := by decide
    have z2 : 2 ≤ sizeLine := by decide
    have z3 : 3 ≤ sizeLine := by decide
    refine ⟨z2, fun q1 m1 => gen_upd H12 q1 (.tup [.int 2, .int 4]) m1 fun I1 g1 f1 => ?_⟩
    refine ⟨z2, fun q2 m2 => gen_upd I1 q2 (.tup [.int 1, .int 0]) m2 fun I2 g2 f2 => ?_⟩
    refine ⟨_, rfl, z2, fun q3 m3 => gen_upd I2 q3 (.tup [.int 1, .int (-2)]) m3 fun I3 g3 f3 => ?_⟩
    refine ⟨z2, fun q4 m4 => gen_upd I3 q4 (.tup [.int 0, .int 2]) m4 fun I4 g4 f4 => ?_⟩
    refine ⟨z3, fun q5 m5 => gen_upd I4 q5 (.tup [.int 1, .int 2, .int 3]) m5 fun I5 g5 f5 => ?_⟩
    refine ⟨z2, fun q6 m6 => gen_upd I5 q6 (.lst [.int 1, .int 2]) m6 fun I6 g6 f6 => ?_⟩
    refine ⟨z1, fun q7 m7 => gen_upd I6 q7 (.tup [.int 1]) m7 fun I7 g7 f7 => ?_⟩
    refine ⟨z2, fun q8 m8 => gen_upd I7 q8 (.tup [.bl true, .int 1]) m8 fun I8 g8 f8 => ?_⟩
    refine ⟨z2, fun q9 m9 => gen_upd I8 q9 (.tup [.int 1, .bl true]) m9 fun I9 g9 f9 => ?_⟩
    refine ⟨10, 60, rfl, rfl, cp60, z2, fun qa ma => gen_upd I9 qa (.tup [.int (10 ^ Int.toNat 60), .int 1]) ma fun I10 g10 f10 => ?_⟩
    refine ⟨(by show 13 ≤ sizeLine; decide), fun D nD => gen_upd I10 D (.lst [.ref q1, .ref q2, .ref q3, .ref q4, .ref q5, .ref q6, .ref q7, .str (Str.ofString "1/2"), .non, .int 1, .ref q8, .ref q9, .ref qa]) nD fun J gJ fJ => ?_⟩
    have t9 := g10.trans gJ
    have t8 := g9.trans t9
    have t7 := g8.trans t8
    have t6 := g7.trans t7
    have t5 := g6.trans t6
    have t4 := g5.trans t5
    have t3 := g4.trans t4
    have t2 := g3.trans t3
    have t1 := g2.trans t2
    have t0 := g1.trans t1
    have d13 := d12.same t0
    have k12a := t0 _ _ h12a
    have k12b := t0 _ _ h12b
    have s013 := s012.trans (Sx.of t0)
    have key : ∀ x, x ∈ [V.ref q1, .ref q2, .ref q3, .ref q4, .ref q5, .ref q6, .ref q7, .str (Str.ofString "1/2"), .non, .int 1, .ref q8, .ref q9, .ref qa] → (∃ (b : Addr) (ys : List V), x = .ref b ∧ J b = some (.tup ys) ∧ ys.length ≤ 1000 ∧ (∀ y ∈ ys, ∃ n, Srt J y n) ∧ ratB ys = false) ∨ ∃ n, Srt J x n ∧ n ≠ "tuple" := by
      have sr : ∀ ys : List V, (∀ y ∈ ys, (∃ i, y = .int i) ∨ ∃ b, y = .bl b) → ∀ y ∈ ys, ∃ n, Srt J y n := fun ys h y hy => by
        rcases h y hy with ⟨i, rfl⟩ | ⟨b, rfl⟩
        · exact ⟨_, .int i⟩
        · exact ⟨_, .bl b⟩
      intro x hx
      simp only [List.mem_cons, List.not_mem_nil, or_false] at hx
      rcases hx with e | e | e | e | e | e | e | e | e | e | e | e | e
      · exact .inl ⟨q1, _, e, t1 _ _ f1, by decide, sr _ (by simp), by decide +kernel⟩
      · exact .inl ⟨q2, _, e, t2 _ _ f2, by decide, sr _ (by simp), by decide +kernel⟩
      · exact .inl ⟨q3, _, e, t3 _ _ f3, by decide, sr _ (by simp), by decide +kernel⟩
      · exact .inl ⟨q4, _, e, t4 _ _ f4, by decide, sr _ (by simp), by decide +kernel⟩
      · exact .inl ⟨q5, _, e, t5 _ _ f5, by decide, sr _ (by simp), by decide +kernel⟩
      · exact .inr ⟨"list", by rw [e]; exact .lst (t6 _ _ f6), by decide⟩
      · exact .inl ⟨q7, _, e, t7 _ _ f7, by decide, sr _ (by simp), by decide +kernel⟩
      · exact .inr ⟨"str", by rw [e]; exact .str _, by decide⟩
      · exact .inr ⟨"NoneType", by rw [e]; exact .non, by decide⟩
      · exact .inr ⟨"int", by rw [e]; exact .int _, by decide⟩
      · exact .inl ⟨q8, _, e, t8 _ _ f8, by decide, sr _ (by simp), by decide +kernel⟩
      · exact .inl ⟨q9, _, e, t9 _ _ f9, by decide, sr _ (by simp), by decide +kernel⟩
      · exact .inl ⟨qa, _, e, gJ _ _ f10, by decide, sr _ (by simp), by decide +kernel⟩
    clear t0 t1 t2 t3 t4 t5 t6 t7 t8 t9 f1 f2 f3 f4 f5 f6 f7 f8 f9 f10 g1 g2 g3 g4 g5 g6 g7 g8 g9 g10 m4 m5 m6 m7 m8 m9 ma nD
    refine ⟨_, rfl, D, rfl, ⟨_, SqL.of fJ⟩, fun L nL => lc_list (xs := [.ref q1, .ref q2, .ref q3, .ref q4, .ref q5, .ref q6, .ref q7, .str (Str.ofString "1/2"), .non, .int 1, .ref q8, .ref q9, .ref qa]) (fun _ H' => Same J H' ∧ H' L = some (.lst [])) ⟨same_upd0 nL, upd_same⟩ (fun i H' hi hP => SqL.of (hP.1 _ _ fJ)) (fun i x H' hx hP => ?_) (fun H' hP => ?_)⟩
    · obtain ⟨sJ, eL⟩ := hP
      rcases key x (List.mem_of_getElem? hx) with ⟨b, ys, rfl, h1, h2, h3, h4⟩ | ⟨n, h1, h2⟩
      · refine ⟨rfl, _, rfl, .inl ⟨b, ys, rfl, sJ _ _ h1, h2, fun y hy => ?_, fun H'' s'' => ⟨ratB ys, rfl, ?_⟩⟩⟩
        · obtain ⟨n, hn⟩ := h3 y hy
          exact ⟨n, hn.same sJ⟩
        · rw [h4]
          exact iteF ⟨sJ.trans s'', s'' _ _ eL⟩
      · refine ⟨rfl, _, rfl, .inr ⟨x, n, rfl, h1.same sJ, h2, ⟨false, rfl, iteF ⟨sJ, eL⟩⟩⟩⟩
    · obtain ⟨sJ, eL⟩ := hP
      refine ⟨Nat.zero_le _, fun M nM => ?_⟩
      have gM := same_upd0 (o := .lst []) nM
      have sM := sJ.trans gM
      have j1 := sM _ _ k12a
      have j2 := sM _ _ k12b
      refine ⟨.list [], .list [], .lst (SqL.of (gM _ _ eL)) .nil, .lst (SqL.of upd_same) .nil, by decide, by decide, ⟨_, rfl, iteF ?_⟩⟩
      refine ⟨_, rfl, _, rfl, _, rfl, a, p1, p2, _, _, _, _, rfl, j1, j2, md1, md2, fun H20 s20 => ⟨true, rfl, iteT ?_⟩⟩
      refine ⟨_, rfl, _, rfl, _, rfl, a, p2, p2, _, _, _, _, rfl, s20 _ _ j2, s20 _ _ j2, md2, md2, fun H21 s21 => ?_⟩
      have sF := sM.trans (s20.trans s21)
      exact q H21 (s013.trans (Sx.of sF)) (d13.same sF)
end
end K00

set_option Elab.async false
set_option linter.all false
set_option maxRecDepth 100000
set_option maxHeartbeats 4000000
namespace K00
open PySem PySem.Spec PyProof.Rows L2 MyR
section
variable {P : Program} {w : World} {K : PySem.W.Frag} {mg : Str → Option Value} {base : Heap}
theorem rt_no2 : rt 2 = none := by
  have e : rt 2 = if ((1 : Nat) : Int) * (1 : Nat) = 2 then some ((1 : Nat) : Int) else none := rt_of (by decide) (by decide) (by decide)
  rw [e]
  decide
def spLaw (K : PySem.W.Frag) : Sp := fun vs H Q _ => ∃ (a : Addr) (ns : List Int), vs = [.ref a] ∧ SqL K H a (ns.map V.int) ∧ ns.length ≤ 63 ∧ ∀ H', Q (.bl true) H'
theorem ok_law (T : Facts K mg) : FnOk P w K mg base CX0 10 T.f_law T.fd_law ["_law_script"] (spLaw K) := by
  have G_law_dice : FnOk P w K mg base CX0 1 T.f_law_dice T.fd_law_dice ["_law_script", "_law_spot"] (spDice K) := ok_law_dice T
  have G_law_right : FnOk P w K mg base CX0 9 T.f_law_right T.fd_law_right ["_law_dice_here"] spRight := ok_law_right T
  have G_is_integer : FnOk P w K mg base CX0 3 T.f_is_integer T.fd_is_integer ["value"] spShort := ok_is_integer T
  have G_root_of : FnOk P w K mg base CX0 6 T.f_root_of T.fd_root_of ["ratio"] spRootOf := ok_root_of T
  refine T.F_law.ok sc_law (fun vs H Q E h => ?_) (fun cdv A outer s H vs Q E hr h => ?_)
  · obtain ⟨a, ns, rfl, _⟩ := h
    rfl
  · obtain ⟨a, ns, rfl, hS, hlen, q⟩ := h
    refine ⟨_, (PSs.nox (pss_cons (ps_for PassesOwn.never (by rfl) (pi_range1 (by rfl) T.z_range (pa_cons (pe_callB (call_max2 (by rfl)) (by rfl) T.z_max (by decide +kernel) (pa_cons pe_int (pa_cons (pe_callB (call_min2 (by rfl)) (by rfl) T.z_min (by decide +kernel) (pa_cons pe_int (pa_cons (pe_callB call_len_seq (by rfl) T.z_len (by decide +kernel) (pa_cons (pv 0) pa_nil)) pa_nil))) pa_nil))) pa_nil)) (pg_name (i := 1) sc_law.nd rfl (.inl rfl))
      (pss_one (ps_if (pt_not (pt_val (pe_call G_law_right hr (by rfl) T.g_law_right T.F_law_right.kp T.b_law_right .nil pass0 (pa_cons (pe_call G_law_dice (hr.mono (by decide)) (by rfl) T.g_law_dice T.F_law_dice.kp T.b_law_dice .nil pass0 (pa_cons (pv 0) (pa_cons (pv 1) pa_nil))) pa_nil))))
        (pss_one (ps_ret pe_bl))
        pss_nil)))
    (pss_cons (ps_setLc (i := 2) (own := [("_law_value", 3)]) (g := (gName 3)) (tt := tYes) rfl sc_law.nd rfl rfl (sw_true rfl rfl rfl (by decide +kernel)) (pi_tup (pe_tup (pa_cons pe_int (pa_cons (pe_op op_add (pe_un un_neg (pe_op op_pow pe_int pe_int)) pe_int) (pa_cons (pe_op op_pow pe_int pe_int) (pa_cons pe_bl (pa_cons pe_non (pa_cons pe_str (pa_cons (pe_tup (pa_cons pe_int pa_nil)) pa_nil))))))))) (blkOk_by (N := N_law) (sc := defScope s_law) (by decide +kernel)) (fun _ _ _ _ _ => (pg_name (i := 3) sc_law.nd rfl (.inl rfl))) (fun _ _ _ _ _ => pts_nil) (fun _ _ _ _ _ => (pe_call G_is_integer (hr.mono (by decide)) (by rfl) T.g_is_integer T.F_is_integer.kp T.b_is_integer .nil pass0 (pa_cons (pv 3) pa_nil))))
    (pss_one (ps_ret (pe_and (pe_cmpR (op_eqD (hu64 hr)) (pv 2) (pe_lst (pa_cons pe_bl (pa_cons pe_bl (pa_cons pe_bl (pa_cons pe_bl (pa_cons pe_bl (pa_cons pe_bl (pa_cons pe_bl pa_nil)))))))) (nomark _)) (pe_and (pe_cmpR (op_eqD (hu64 hr)) (pe_call G_root_of (hr.mono (by decide)) (by rfl) T.g_root_of T.F_root_of.kp T.b_root_of .nil pass0 (pa_cons (pe_tup (pa_cons pe_int (pa_cons pe_int pa_nil))) pa_nil)) (pe_tup (pa_cons pe_int (pa_cons pe_int pa_nil))) (nomark _)) (pe_one (pe_cmpR op_isN (pe_call G_root_of (hr.mono (by decide)) (by rfl) T.g_root_of T.F_root_of.kp T.b_root_of .nil pass0 (pa_cons (pe_tup (pa_cons pe_int (pa_cons pe_int pa_nil))) pa_nil)) pe_non (nomark _)))))))))), ?_⟩
    refine ⟨.ref a, rfl, a, _, rfl, .inl hS, 6, _, rfl, 1, _, rfl, _, rfl, ?_⟩
    rw [List.length_map]
    obtain ⟨n, hn, hn0⟩ : ∃ n : Int, (if (if ((ns.length : Nat) : Int) < 6 then ((ns.length : Nat) : Int) else 6) > 1 then (if ((ns.length : Nat) : Int) < 6 then ((ns.length : Nat) : Int) else 6) else 1) = n ∧ 0 ≤ n ∧ n ≤ 6 := ⟨_, rfl, by split <;> split <;> omega, by split <;> split <;> omega⟩
    rw [hn]
    refine ⟨by omega, by omega, for_range (n := n.toNat) (fun i σ H' => ∃ y1, σ = [some (.ref a), y1, none, none] ∧ SqL K H' a (ns.map V.int)) ⟨none, rfl, hS⟩ (fun i σ H1 hi hP => ?_) (fun σ H1 hP => ?_)⟩
    · obtain ⟨y1, rfl, h1⟩ := hP
      refine ⟨.ref a, rfl, _, rfl, a, ns, i, ?_, h1, fun d x y z nd => ?_⟩
      · show [V.ref a, V.int (0 + (i : Int))] ++ [] = _
        rw [Int.zero_add]
        rfl
      have d1 : Dc (upd H1 d (dice x y z)) d := ⟨x, y, z, upd_same⟩
      refine ⟨d, rfl, d1, fun H2 s2 d2 => ⟨true, rfl, iteF ?_⟩⟩
      exact ⟨_, rfl, script_Sx s2 nd h1⟩
    · obtain ⟨y1, rfl, h1⟩ := hP
      have z1 : 1 ≤ sizeLine := by decide
      have z2 : 2 ≤ sizeLine := by decide
      have z7 : 7 ≤ sizeLine := by decide
      refine ⟨10, 60, rfl, rfl, cp60, _, rfl, _, _, rfl, rfl, 10, 60, rfl, rfl, cp60, z1, fun q1 m1 => ?_⟩
      refine gen_upd H1 q1 (.tup [.int 1]) m1 fun H2 g2 f2 => ⟨z7, fun q2 m2 => gen_upd H2 q2 (.tup [.int 0, .int (-(10 ^ Int.toNat 60) + 1), .int (10 ^ Int.toNat 60), .bl true, .non, .str (Str.ofString "1"), .ref q1]) m2 fun J gJ fJ => ?_⟩
      have k1 := gJ _ _ f2
      refine ⟨q2, rfl, ⟨_, SqT.of fJ⟩, fun D hD => lc_tup (xs := [.int 0, .int (-(10 ^ Int.toNat 60) + 1), .int (10 ^ Int.toNat 60), .bl true, .non, .str (Str.ofString "1"), .ref q1]) (fun i H' => H' = upd J D (.lst (([V.int 0, .int (-(10 ^ Int.toNat 60) + 1), .int (10 ^ Int.toNat 60), .bl true, .non, .str (Str.ofString "1"), .ref q1].take i).map fun y => V.bl (shV y)))) rfl (fun i H' hi hP => ?_) (fun i x H' hi hP => ?_) (fun H' hP => ?_)⟩
      · rw [hP]
        exact SqT.of (same_upd0 hD _ _ fJ)
      · subst hP
        have hlt := (List.getElem?_eq_some_iff.mp hi).1
        obtain ⟨n, hn⟩ : ∃ n, Srt J x n := by
          have hm := List.mem_of_getElem? hi
          simp only [List.mem_cons, List.not_mem_nil, or_false] at hm
          rcases hm with e | e | e | e | e | e | e <;> rw [e]
          · exact ⟨_, .int _⟩
          · exact ⟨_, .int _⟩
          · exact ⟨_, .int _⟩
          · exact ⟨_, .bl _⟩
          · exact ⟨_, .non⟩
          · exact ⟨_, .str _⟩
          · exact ⟨_, .tup k1⟩
        refine ⟨rfl, ⟨x, rfl, x, n, rfl, hn.same (same_upd0 hD), _, upd_same, ?_, ?_⟩⟩
        · rw [List.length_map, List.length_take]
          exact small1000 (by
            have : ([V.int 0, .int (-(10 ^ Int.toNat 60) + 1), .int (10 ^ Int.toNat 60), .bl true, .non, .str (Str.ofString "1"), .ref q1]).length = 7 := rfl
            omega)
        · rw [upd_upd, List.take_add_one, hi, List.map_append]
          rfl
      · subst hP
        rw [List.take_length]
        have b1 : shV (.int (-(10 ^ Int.toNat 60) + 1)) = true := by decide +kernel
        have b2 : shV (.int (10 ^ Int.toNat 60)) = false := by decide +kernel
        have eB : ([V.int 0, .int (-(10 ^ Int.toNat 60) + 1), .int (10 ^ Int.toNat 60), .bl true, .non, .str (Str.ofString "1"), .ref q1].map fun y => V.bl (shV y)) = [.bl true, .bl true, .bl false, .bl false, .bl false, .bl false, .bl false] := by
          simp only [List.map_cons, List.map_nil, b1, b2]
          rfl
        rw [eB]
        refine gen_upd J D (.lst [.bl true, .bl true, .bl false, .bl false, .bl false, .bl false, .bl false]) hD fun J1 g1 f1 => ?_
        refine ⟨_, rfl, z7, fun q3 m3 => gen_upd J1 q3 (.lst [.bl true, .bl true, .bl false, .bl false, .bl false, .bl false, .bl false]) m3 fun J2 g3 f3 => ?_⟩
        refine ⟨.list [.bool true, .bool true, .bool false, .bool false, .bool false, .bool false, .bool false], .list [.bool true, .bool true, .bool false, .bool false, .bool false, .bool false, .bool false], .lst (SqL.of (g3 _ _ f1)) ?_, .lst (SqL.of f3) ?_, by decide, by decide, ⟨true, rfl, iteT ?_⟩⟩
        · exact .cons (.bl _) (.cons (.bl _) (.cons (.bl _) (.cons (.bl _) (.cons (.bl _) (.cons (.bl _) (.cons (.bl _) .nil))))))
        · exact .cons (.bl _) (.cons (.bl _) (.cons (.bl _) (.cons (.bl _) (.cons (.bl _) (.cons (.bl _) (.cons (.bl _) .nil))))))
        refine ⟨z2, fun q4 m4 => gen_upd J2 q4 (.tup [.int 4, .int 9]) m4 fun J3 g4 f4 => ?_⟩
        have r4 : rt 4 = some 2 := rt_sq 2
        have r9 : rt 9 = some 3 := rt_sq 3
        refine ⟨q4, 4, 9, rfl, f4, ⟨by decide +kernel, by decide +kernel, by decide, by decide⟩, fun e => ?_, fun x y e p J4 s4 n4 f5 => ?_⟩
        · rw [rtR_some r4 r9] at e
          cases e
        rw [rtR_some r4 r9] at e
        cases e
        refine ⟨z2, fun q5 m5 => gen_upd J4 q5 (.tup [.int 2, .int 3]) m5 fun J5 g5 f6 => ?_⟩
        refine eq_same (ns := [2, 3]) (sq2 (g5 _ _ f5)) (SqT.of f6) ⟨true, rfl, iteT ?_⟩
        refine ⟨z2, fun q6 m6 => gen_upd J5 q6 (.tup [.int 2, .int 1]) m6 fun J6 g6 f7 => ?_⟩
        refine ⟨q6, 2, 1, rfl, f7, ⟨by decide +kernel, by decide +kernel, by decide, by decide⟩, fun e J7 s7 => ?_, fun x y e => ?_⟩
        · exact ⟨rfl, q J7⟩
        · rw [rtR_none_l rt_no2] at e
          cases e
end
end K00

set_option Elab.async false
set_option linter.all false
set_option maxRecDepth 100000
set_option maxHeartbeats 0
namespace K00
open PySem PySem.Spec PyProof.Rows L2
abbrev R : PySem.W.OpenRow := PySem.W.OpenLaw.row PySem.Challenge.rw_sourceforms_k00_whole_ratios
abbrev hk : PySem.W.Hook := He.hookX 4 faL fnL [] [] exL
def ob (s : PySem.W.SharedT) : He.AlX := He.obsX 4 faL fnL [] [] exL (HandSHeadRun.getT s)
theorem ob_eq (s : PySem.W.SharedT) : ob s = hk.obs s.abs := He.obsX_eq (HandSHeadRun.getT_eq s)
def loose0 : List Str := ["LetterError", "InvalidRatio", "InvalidOperation", "InvalidNumber", "GREATEST", "is_whole", "is_short", "are_short", "require_short", "lowest_of", "plus_of", "minus_of", "times_of", "over_of", "compared_of", "whole_root", "root_in", "text_of_ratio", "is_pair_of_ratio", "is_ratio_in", "require_ratio", "require_two", "is_integer", "is_ratio", "lowest", "plus", "minus", "times", "over", "compare"]
def loose1 : List Str := ["root_of", "ratio_text", "_law_dice", "_law_roll", "_law_pick", "_law_near", "_law_gcd", "_law_lowest", "_law_ratio_sum", "_law_ratio_product", "_law_some_ratio", "_law_int_root", "_law_text_of", "_law_root_due", "_law_pair_right", "_law_right"]
def loose : List Str := loose0 ++ loose1
theorem run (w : World) : HandSHeadRun.RunEqI R (PySem.W.view R.prog [0, 51]) hk ob 6000 loose w := by
  show (_ : Option _) = _
  kernel_rfl
end K00

set_option Elab.async false
set_option linter.all false
set_option maxRecDepth 100000
set_option maxHeartbeats 0
namespace K00
open PySem PySem.Spec PyProof.Rows L2
theorem facts {P : Program} {w : World} {K : PySem.W.Frag} {h : Heap} {mg : Str → Option Value} {f : Addr} (X : K.In h) (G : h.Ns mainGlobals mg) (hfa : mg ("law" : Str) = some (.ref f)) (c : He.SaysX faL fnL [] [] exL w h K) :
    ∃ fd : FuncData, (∀ (s : Shared) (v : Value), BindsTo s fd ⟨[v], []⟩ [("_law_script", v)]) ∧ ∀ base : Heap, K.In base → base.Ns mainGlobals mg → FnOk P w K mg base CX0 10 f fd ["_law_script"] (spLaw K) := by
  obtain ⟨T⟩ := facts_of X G c.t.d c.more
  have e := hfa.symm.trans T.g_law
  cases e
  have b := FunD.bindsA (ps := ["_law_script"]) T.F_law fun _ _ _ _ _ _ us hl => match us, hl with | [_], _ => rfl
  exact ⟨T.fd_law, fun s v => b s [v] rfl, fun base _ _ => ok_law T⟩
end K00
open PySem PySem.W PySem.Calls PyProof.Rows
theorem PySem.Challenge.cw_sourceforms_k00_whole_ratios_holds : PySem.Challenge.rw_sourceforms_k00_whole_ratios.Holds := by
  w_on; o_law
  refine HandSHeadRun.head_imp (r := OpenLaw.row PySem.Challenge.rw_sourceforms_k00_whole_ratios) (q := view (OpenLaw.row PySem.Challenge.rw_sourceforms_k00_whole_ratios).prog [0, 51]) (H := K00.hk) (ob := K00.ob) (M := 6000) (loose := K00.loose) (d := HandSHeadRun.topDef (OpenLaw.row PySem.Challenge.rw_sourceforms_k00_whole_ratios).prog 51) (kwd := []) K00.ob_eq K00.run (by kernel_rfl) (by kernel_rfl) (by kernel_rfl) (by rfl) (by first | assumption | decide +kernel) (by decide +kernel) ⟨rfl, rfl, rfl, rfl, rfl, by decide +kernel⟩ ?hw ?hc
  case hw => w_witness2
  case hc =>
    refine L2.walk_ofE (l := PySem.Challenge.rw_sourceforms_k00_whole_ratios) (n := 63) (k := 10) (x := "_law_script") (CX := L2.CX0) rfl (by decide) (by kernel_rfl) ⟨rfl, by decide, by decide⟩ ?F (fun _ _ _ _ z => z)
    intro w mg fa h Y G hmg0
    obtain ⟨K, KX, c⟩ := Y
    have hmg : mg ("law" : PySem.Str) = some (.ref fa) := by
      have e : (HandSHeadRun.topDef (OpenLaw.row PySem.Challenge.rw_sourceforms_k00_whole_ratios).prog 51).name = ("law" : PySem.Str) := by kernel_rfl
      rw [← e]
      exact hmg0
    obtain ⟨fd, hb, hF⟩ := K00.facts (P := (PySem.Challenge.rw_sourceforms_k00_whole_ratios).prog) (w := w) KX G hmg c
    exact ⟨K, fd, K00.spLaw K, KX, hb, fun H a ns hl _ hS => ⟨a, ns, rfl, hS, hl, fun _ => rfl⟩, hF⟩
