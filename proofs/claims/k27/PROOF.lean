import PyProof.Rows.All
import Wide.All
import OpenK.AllK
import Wide.FinOn
import KE.KTupSum
import HandS.ForMost
import HandS.Wide
import HandS.Style
import HandS.Gcd
import KE.KMathG
import Flt.RightSqrt
import PyProof.MinMaxWalk
import PyProof.WalkInts
import PyProof.TupleOps
import PyProof.WalksMore
import HandS.Deep
import HandS.TupSets
import HandS.Sort
import KE.DataFind
import HandS.SortRule
import HandS.NamedTupSort
import HandS.GenBody
import HandS.GenYield
import HandS.GenCall
import HandS.GenList
import HandS.Defaults
import PyProof.GenComp
import HandS.List
import HandS.Conv
import HandS.Star
import HandS.TupAny
import HandS.IsInst
import HandS.Zip
import HandS.Evl
import HandS.WordsExc
import HandS.Head0
import HandS.Head1
import HandS.Head2
import HandS.Head3
import HandS.HeadEnd
import HandS.HeadHook1
import HandS.HeadHook2
import HandS.HeadHook3
import HandS.HeadHook4
import HandS.FStr
import KE.KEqSeq
import HandS.TupLe
import HandS.TupMul
import HandS.Flow
import PySem.Challenge.RW_sourceforms_k27_whole_boxes_turned_and_l

set_option Elab.async false
set_option linter.all false
set_option maxRecDepth 100000
set_option maxHeartbeats 4000000
/-! rules of mine: a tuple turned round by a slice, the sum of a tuple -/
namespace MyR
open PySem PySem.Spec PyProof.Rows L2 HT
section
variable {prog : Program} {w : World} {A : Around} {E : Value → Shared → Prop} {s : Shared}
theorem places_rev (n : Nat) : Builtin.Slice.slicePlaces ((n : Int) - 1) (-1) (-1) = n := by
  unfold Builtin.Slice.slicePlaces
  have h1 : ¬ ((-1 : Int) > 0) := by decide
  rw [if_neg h1]
  by_cases h : (n : Int) - 1 > -1
  · rw [if_pos h, show (- -1 : Int) = 1 by decide, Int.ediv_one]
    omega
  · rw [if_neg h]
    have : n = 0 := by omega
    subst this
    rfl
theorem sliceApplied_rev {sl : Addr} {vs : Value} {n : Nat} {Q : Int × Int × Nat → Shared → Prop} (hs : s.heap.IsSliceOf sl .none .none vs) (ps : IsPart vs (some (-1)))
    (h : Q ((n : Int) - 1, -1, n) s) : wpAny (model prog w) A (Builtin.Slice.sliceApplied (.ref sl) (pure (n : Int))) Q E s := by
  obtain ⟨os, hos, hcs, hds⟩ := id hs
  unfold Builtin.Slice.sliceApplied Builtin.Slice.sliceFields
  refine wpAny_bind (wpAny_bind (wpAny_field hos hds (x := .none) rfl (wpAny_bind (wpAny_field hos hds (x := .none) rfl (wpAny_bind (wpAny_field hos hds (x := vs) rfl (wpAny_pure ?_)))))))
  refine wpAny_bind (slicePart_ ps ?_)
  show wpAny _ _ (if ((-1 : Int) == 0) = true then _ else _) _ _ s
  rw [if_neg (by decide)]
  refine wpAny_bind (slicePart_none (wpAny_bind (slicePart_none (wpAny_bind (wpAny_pure ?_)))))
  show wpAny _ _ (pure ((n : Int) - 1, (-1 : Int), Builtin.Slice.slicePlaces ((n : Int) - 1) (-1) (-1))) _ _ s
  rw [places_rev]
  exact wpAny_pure h
theorem filterMap_all {α : Type} {f : Nat → Option α} {g : Nat → α} : ∀ l : List Nat, (∀ m ∈ l, f m = some (g m)) → l.filterMap f = l.map g
  | [], _ => rfl
  | a :: r, h => by
    rw [List.filterMap_cons, h a List.mem_cons_self, List.map_cons, filterMap_all r fun m hm => h m (List.mem_cons_of_mem _ hm)]
theorem pick_rev (xs : Array Value) : ((List.range xs.size).filterMap fun (m : Nat) => xs[((xs.size : Int) - 1 + (m : Int) * -1).toNat]?).toArray = xs.toList.reverse.toArray := by
  congr 1
  apply List.ext_getElem?
  intro i
  have e : (List.range xs.size).filterMap (fun (m : Nat) => xs[((xs.size : Int) - 1 + (m : Int) * -1).toNat]?) = (List.range xs.size).map (fun (m : Nat) => xs.toList.reverse.getD m .none) := by
    refine filterMap_all _ fun m hm => ?_
    have hm := List.mem_range.mp hm
    have e1 : ((xs.size : Int) - 1 + (m : Int) * -1).toNat = xs.size - 1 - m := by omega
    have hm' : m < xs.toList.reverse.length := by rw [List.length_reverse, Array.length_toList]; exact hm
    rw [e1, List.getD_eq_getElem?_getD, List.getElem?_eq_getElem hm', Array.getElem?_eq_getElem (by omega)]
    rw [List.getElem_reverse]
    simp only [Array.length_toList, Array.getElem_toList, Option.getD_some]
  rw [e, List.getElem?_map]
  by_cases h : i < xs.size
  · have h' : i < xs.toList.reverse.length := by rw [List.length_reverse, Array.length_toList]; exact h
    rw [List.getElem?_range h, List.getElem?_eq_getElem h']
    show some (xs.toList.reverse.getD i .none) = _
    rw [List.getD_eq_getElem?_getD, List.getElem?_eq_getElem h']
    rfl
  · rw [List.getElem?_eq_none (by rw [List.length_range]; omega), List.getElem?_eq_none (by rw [List.length_reverse, Array.length_toList]; omega)]
    rfl
theorem getItem_tuple_rev {t sl : Addr} {items : Array Value} {vs : Value} {Q : Value → Shared → Prop} (ht : IsTup s.heap t items) (hs : s.heap.IsSliceOf sl .none .none vs) (ps : IsPart vs (some (-1)))
    (h : Q (.ref s.heap.objs.size) { s with heap := s.heap.push { cls := .type "tuple", data := .seq items.toList.reverse.toArray } })
    (hsz : items.size ≤ sizeLine) : wpAny (model prog w) A (getItem (.ref t) (.ref sl)) Q E s := by
  have htake : sizeOk (.seq items.toList.reverse.toArray) := by
    show items.toList.reverse.toArray.size ≤ sizeLine
    rw [List.size_toArray, List.length_reverse, Array.length_toList]
    exact hsz
  obtain ⟨os, hos, hcs, hds⟩ := id hs
  have hTs : s.TypeIs (.ref sl) "slice" := ⟨os, hos, hcs⟩
  unfold getItem
  try with_reducible refine wpAny_holding ?_
  first | refine wpAny_bind (wpAny_pure ?_) | skip
  refine wpAny_bind (wpAny_sequenceKey ht.typeIs (by decide) ?_)
  refine wpAny_bind (wpAny_callSpecial?_slot (name := Str.ofString "__getitem__") ht.typeIs PyProof.Rows.slot_tuple_getitem
    (wpAny_call_entry PyProof.Rows.slot_tuple_getitem ht.typeIs entry_tuple_getitem ?_ (args_tuple_getitem _ _)))
  show wpAny _ _ (Builtin.Tuple.tupleItemsOf (.ref t) >>= _) _ _ s
  refine wpAny_bind (tupleItemsOf_ ht ?_)
  refine wpAny_bind (wpAny_typeOf hTs ?_)
  rw [if_pos (by decide)]
  refine wpAny_bind (sliceApplied_rev (n := items.size) hs ps ?_)
  have hno : ¬ ((((items.size : Int) - 1) == 0 && (-1 : Int) == 1 && items.size == items.size) = true) := by
    intro q
    rw [Bool.and_eq_true, Bool.and_eq_true] at q
    exact absurd q.1.2 (by decide)
  show wpAny _ _ (if ((((items.size : Int) - 1) == 0 && (-1 : Int) == 1 && items.size == items.size) = true) then _ else _) _ _ s
  rw [if_neg hno, pick_rev]
  first
    | exact wpAny_bind (m := Builtin.Tuple.tupleExact _) (wpAny_newObj_type (wpAny_pure ⟨_, rfl, wpAny_pure h⟩) htake)
    | exact wpAny_bind (m := Builtin.Tuple.tupleExact _) (wpAny_newObj_type (wpAny_bind (wpAny_pure (wpAny_pure ⟨_, rfl, wpAny_pure h⟩))) htake)
    | exact wpAny_bind (wpAny_bind (m := Builtin.Tuple.tupleExact _) (wpAny_newObj_type (wpAny_pure (wpAny_pure ⟨_, rfl, wpAny_pure h⟩)) htake))
    | exact wpAny_bind (wpAny_bind (m := Builtin.Tuple.tupleExact _) (wpAny_newObj_type (wpAny_pure ⟨_, rfl, wpAny_pure h⟩) htake))
theorem sumT_raw {l : Addr} {its : List Value} {ns : List Int} {Q : Value → Shared → Prop} (hh : A.handled = none) (hl : s.heap.IsTuple l its.toArray) (hi : IntsAre its ns)
    (h : ∀ h' tk t', (∀ b o, s.heap.get? b = some o → h'.get? b = some o) → Q (.int ns.sum t') { s with heap := h', toks := tk }) : wpAny (model prog w) A (call (.builtin "sum") [.ref l]) Q E s := by
  obtain ⟨xs, e⟩ := hi.allInts.items
  have hn : numsOf (intItems xs).toList = ns := by rw [← e]; exact hi.numsOf
  rw [nums_intItems] at hn
  rw [e] at hl
  refine PySem.W.ktm_sumG hh hl fun h' tk t' hk => ?_
  have := h h' tk t' hk
  rw [preSum_eq, List.take_of_length_le (by simp), hn]; exact this
end
section
variable {X : Cx}
/-- t[::-1], a new tuple -/
def tRevT (K : PySem.W.Frag) (te : TE) : TE := fun σ H Q => te σ H fun x H1 => ∃ a xs, x = .ref a ∧ SqT K H1 a xs ∧ ∀ p, H1 p = none → Q (.ref p) (upd H1 p (.tup xs.reverse))
theorem pe_revT {e : Expr} {te : TE} {k : Nat} {p1 p2 p3 pos : Pos} (he : PE X e te) : PE X (.Subscript e (.Slice none none (some (.UnaryOp .USub (.Constant (.int 1) k p1) p2)) p3) pos) (tRevT X.K te) := by
  refine ⟨fun pins s σ H Q I h => ?_⟩
  refine Subscript_ (thn (he.run pins s σ H _ I h) fun v s1 ⟨x, H1, I1, r1, q1⟩ => ?_)
  obtain ⟨a, xs, ex, hx, q⟩ := q1
  subst ex
  cases r1
  have hst : PO X (some (.UnaryOp .USub (.Constant (.int 1) k p1) p2)) (tPart (tUn (rU fun i => .int (-i)) (tC (.int 1)))) := po_some (pe_un un_neg pe_int)
  refine wpAny_Slice (thn (po_none.run pins s1 σ H1 (fun o H2 => o = none ∧ H2 = H1) I1 ⟨rfl, rfl⟩) fun vl s2 ⟨l, H2, I2, pl, el, e2⟩ => ?_)
  subst el e2
  refine thn (po_none.run pins s2 σ H2 (fun o H3 => o = none ∧ H3 = H2) I2 ⟨rfl, rfl⟩) fun vu s3 ⟨u, H3, I3, pu, eu, e3⟩ => ?_
  subst eu e3
  refine thn (hst.run pins s3 σ H3 (fun o H4 => o = some (-1) ∧ H4 = H3) I3 ⟨1, rfl, -1, rfl, rfl, rfl⟩) fun vs s4 ⟨o, H4, I4, ps, eo, e4⟩ => ?_
  subst eo e4
  have evl : vl = .none := by cases pl; rfl
  have evu : vu = .none := by cases pu; rfl
  subst evl evu
  have I5 : Inv X pins σ H4 { s4 with heap := s4.heap.push { cls := .type "slice", data := .fields #[.none, .none, vs] } } := I4.kept (t' := s4.toks) fun b ob q => Heap.get?_push_of_some _ q
  obtain ⟨its, r, ht, hz⟩ := I5.tuple hx
  have hlen := r.length
  show wpAny (model X.prog X.w) X.A (subscriptTail e (.Slice none none (some (.UnaryOp .USub (.Constant (.int 1) k p1) p2)) p3) (.ref a) (.ref s4.heap.objs.size)) (EP X pins σ Q) X.xe { s4 with heap := s4.heap.push { cls := .type "slice", data := .fields #[.none, .none, vs] } }
  refine tail_any (ops := [.ref a, .ref s4.heap.objs.size]) ht.typeIs (PyProof.Rows.slot_tuple_getitem.lookup) ?_ (by with_unfolding_all rfl)
  refine getItem_tuple_rev ht (Heap.IsSliceOf.new _ .none .none vs) ps ?_ (by rw [List.size_toArray]; omega)
  refine ⟨.ref _, _, I5.laid (t' := s4.toks) (o := .tup xs.reverse) (fun b ob q => Heap.get?_push_of_some _ q) (Nat.le_refl _) ?_, rfl, q _ (I5.hok.fresh (Nat.le_refl _))⟩
  exact ⟨by rw [List.length_reverse]; exact hz, _, r.reverse, IsTup.new _ _⟩
/-- sum of a tuple of ints -/
def rSumT (K : PySem.W.Frag) : List V → Hp → VK → Prop := fun vs H Q => ∃ (a : Addr) (ns : List Int), vs = [V.ref a] ∧ SqT K H a (ns.map V.int) ∧ Q (.int ns.sum) H
theorem cr_sumT (hc : X.calm = true) : CallR X (.builtin "sum") (rSumT X.K) := by
  intro pins s σ H vs us Q I r h
  obtain ⟨a, ns, rfl, hs, q⟩ := h
  obtain ⟨its, rv, hl, _⟩ := I.tuple hs
  rw [Vals.ref1 r]
  refine sumT_raw (I.ok.hd hc) ?_ (intsAre_of rv) fun h' tk t' hk => ⟨.int _, H, I.kept hk, ⟨_, rfl⟩, q⟩
  exact hl
end
end MyR

set_option Elab.async false
set_option linter.all false
set_option maxRecDepth 100000
/-! max(t) of a tuple of ints -/
namespace MaxT
open PySem PySem.Spec PyProof.Rows L2
section
variable {prog : Program} {w : World} {A : Around} {E : Value → Shared → Prop} {s : Shared}
theorem maxT_items {t : Addr} {xs : Array (Int × Tok)} {Q : Value → Shared → Prop} (hh : A.handled = none) (ht : s.heap.IsTuple t (intItems xs)) (hne : 0 < xs.size)
    (h : ∀ v h' tk, (intItems xs)[argBest (fun i j => decide (numAt xs i > numAt xs j)) (xs.size - 1)]? = some v → (∀ b o, s.heap.get? b = some o → h'.get? b = some o) → Q v { s with heap := h', toks := tk }) :
    wpAny (model prog w) A (call (.builtin "max") [.ref t]) Q E s := by
  obtain ⟨o, ho, hc, n, hd⟩ := id ht
  have hn : t ≠ s.heap.objs.size := Nat.ne_of_lt (Heap.lt_size ho)
  have hsz : (intItems xs).size = xs.size := by simp [intItems]
  refine call_max_walk (wpAny_pyIter_tuple ht ?_)
  refine ⟨s.heap.objs.size, _, _, _, _, _, _, rfl, Walks.tuple (prog := prog) (w := w) (A := A.in1) hh s.heap.objs.size t hn (intItems xs), ⟨⟨_, Heap.get?_push_size _ rfl, rfl, rfl⟩, ht.at fun o e => Heap.get?_push_of_some _ e⟩, fun b hb => ?_, by rw [hsz]; exact hne, CmpOf.ints_gt (numAt xs) (fun _ _ => intItems_at), fun v h' tk hP hk => ?_⟩
  · rcases List.mem_cons.mp hb with rfl | hb
    · exact Heap.lt_size (Heap.get?_push_size _ rfl)
    · obtain rfl := List.mem_singleton.mp hb
      exact Heap.lt_size (Heap.get?_push_of_some _ ho)
  · rw [hsz] at hP
    exact h v h' tk hP fun b o e => hk b o (fun hb => absurd (Heap.lt_size e) ((List.mem_singleton.mp hb) ▸ Nat.lt_irrefl _)) (Heap.get?_push_of_some _ e)
theorem maxT_raw {l : Addr} {its : List Value} {ns : List Int} {Q : Value → Shared → Prop} (hh : A.handled = none) (hl : s.heap.IsTuple l its.toArray) (hi : IntsAre its ns) (hne : 0 < ns.length)
    (h : ∀ h' tk M t', (∀ b o, s.heap.get? b = some o → h'.get? b = some o) → M ∈ ns → (∀ a, a ∈ ns → a ≤ M) → Q (.int M t') { s with heap := h', toks := tk }) : wpAny (model prog w) A (call (.builtin "max") [.ref l]) Q E s := by
  obtain ⟨xs, e⟩ := hi.allInts.items
  have hn : numsOf (intItems xs).toList = ns := by rw [← e]; exact hi.numsOf
  rw [nums_intItems] at hn
  subst hn
  rw [e] at hl
  have hsz : 0 < xs.size := by simpa using hne
  refine maxT_items hh hl hsz fun v h' tk hv hk => ?_
  obtain ⟨t, rfl⟩ := intItems_at hv
  obtain ⟨h1, h2⟩ := argBest_gt (numAt xs) (xs.size - 1)
  refine h h' tk _ t hk ?_ fun a ha => ?_
  · rw [numAt_eq]; exact PySem.getD_mem (by rw [List.length_map, Array.length_toList]; omega)
  · obtain ⟨j, hj, rfl⟩ := mem_getD ha
    rw [List.length_map, Array.length_toList] at hj
    rw [← numAt_eq]; exact h2 j (by omega)
end
section
variable {X : Cx}
def rMaxT (K : PySem.W.Frag) : List V → Hp → VK → Prop := fun vs H Q => ∃ (a : Addr) (ns : List Int), vs = [V.ref a] ∧ SqT K H a (ns.map V.int) ∧ 0 < ns.length ∧ ∀ m, m ∈ ns → (∀ y, y ∈ ns → y ≤ m) → Q (.int m) H
theorem cr_maxT (hc : X.calm = true) : CallR X (.builtin "max") (rMaxT X.K) := by
  intro pins s σ H vs us Q I r h
  obtain ⟨a, ns, rfl, hs, hne, q⟩ := h
  obtain ⟨its, rv, hl, _⟩ := I.tuple hs
  rw [Vals.ref1 r]
  exact maxT_raw (I.ok.hd hc) hl rv.ints hne fun h' tk m t' hk h1 h2 => ⟨.int _, H, I.kept hk, ⟨_, rfl⟩, q m h1 h2⟩
end
end MaxT

set_option Elab.async false
set_option linter.all false
set_option maxRecDepth 100000
set_option maxHeartbeats 2000000
/-! l.count(x) of data, sorted(set) of pairs of ints -/
namespace TupC
open PySem PySem.Spec PyProof.Rows L2
section
variable {X : Cx}
end
section
variable {P : Program} {w : World} {A : Around} {E : Value → Shared → Prop} {s : Shared}
end
section
variable {X : Cx}
end
end TupC

set_option Elab.async false
set_option linter.all false
set_option maxRecDepth 100000
set_option maxHeartbeats 2000000
/-! sorted(list) and sorted(set) of tuples of ints, of several lengths -/
namespace TupS
open PySem PySem.Spec PyProof.Rows L2
section
variable {prog : Program} {w : World} {A : Around} {E : Value → Shared → Prop} {s : Shared} {Q : Bool → Shared → Prop}
theorem lex_any {b : Bool} {xs : List Value} {ns : List Int} (hx : IntsAre xs ns) : ∀ {ys : List Value} {ms : List Int} (i : Nat), IntsAre ys ms → ∀ {fin : Bool}, (fin = decide (ns.length < ms.length)) → Q (HT.lexLt ns ms) s → PySem.W.KatLex prog w A b fin Q (xs.zip ys) i s := by
  induction hx with
  | nil =>
    intro ys ms i hy fin hf h
    cases hy with
    | nil =>
      rw [HT.lexLt_nil_nil] at h
      have e : fin = false := by rw [hf]; rfl
      rw [e]
      exact PySem.W.kat_nil h
    | cons q u hy =>
      rw [HT.lexLt_nil_cons] at h
      have e : fin = true := by rw [hf, List.length_nil, List.length_cons]; exact decide_eq_true (Nat.succ_pos _)
      rw [e]
      exact PySem.W.kat_nil h
  | @cons p t xs ns hx ih =>
    intro ys ms i hy fin hf h
    cases hy with
    | nil =>
      rw [HT.lexLt_cons_nil] at h
      have e : fin = false := by rw [hf, List.length_nil, List.length_cons]; exact decide_eq_false (by omega)
      rw [e]
      exact PySem.W.kat_nil h
    | @cons q u ys ms hy =>
      show PySem.W.KatLex prog w A b fin Q ((Value.int p t, Value.int q u) :: xs.zip ys) i s
      refine PySem.W.kat_cons (wpAny_eqBool_int ?_)
      rw [HT.lexLt_cons] at h
      by_cases e : p = q
      · subst e
        rw [if_pos rfl] at h
        rw [beq_self_eq_true]
        refine PySem.W.kat_yes ?_
        exact ih (i + 1) hy (by rw [hf]; exact decide_eq_decide.mpr (by simp)) h
      · rw [if_neg e] at h
        rw [show (p == q) = false from beq_eq_false_iff_ne.mpr e]
        exact PySem.W.kat_no (TS.oneLt_ints _ h)
theorem tup_cmp {vs : List Value} {k : Value → List Int} (hv : ∀ v ∈ vs, TS.TupInts s.heap v (k v)) : SrtO.Cmp prog w A s (tuples' true) (fun p => p.1 ∈ vs) (SrtO.lt2 fun v u => HT.lexLt (k v) (k u)) := by
  intro p q hp hq
  show wpAny (model prog w) A (keyLt' (tuples' true) p.1 q.1) (fun r s' => s' = s ∧ r = HT.lexLt (k p.1) (k q.1)) (fun _ _ => False) s
  have h1 := hv _ hp
  have h2 := hv _ hq
  obtain ⟨a, xs, e1, ⟨o, ho, hc, n, hdt⟩, i⟩ := h1
  obtain ⟨a', ys, e2, ⟨o', ho', hc', n', hdt'⟩, i'⟩ := h2
  rw [e1] at i
  rw [e2] at i'
  rw [e1, e2]
  refine PySem.W.kat_lt ho hdt ho' hdt' ?_
  have l1 := i.length
  have l2 := i'.length
  rw [Array.length_toList] at l1 l2
  exact lex_any i 0 i' (by rw [l1, l2]) ⟨rfl, rfl⟩
theorem firsts : ∀ {h : Heap} (vs : List Value), (∀ v ∈ vs, ∃ ns, TS.TupInts h v ns ∧ ns ≠ []) → ∃ fs, PySem.W.KatTups h vs fs ∧ fs.length = vs.length ∧ ∀ f, f ∈ fs → ∃ n t, f = Value.int n t
  | h, [], _ => ⟨[], PySem.W.KatTups.nil, rfl, fun f hf => (nomatch hf)⟩
  | h, v :: vs, x => by
    obtain ⟨fs, k, hl, hi⟩ := firsts vs fun u hu => x u (.tail _ hu)
    obtain ⟨ns, ⟨a, xs, rfl, ⟨o, ho, hc, n, hdt⟩, i⟩, hn⟩ := x v (.head _)
    obtain ⟨y, ys, e⟩ : ∃ y ys, xs.toList = y :: ys := by
      cases q : xs.toList with
      | nil =>
        rw [q] at i
        cases i
        exact absurd rfl hn
      | cons y ys => exact ⟨y, ys, rfl⟩
    obtain ⟨m, t, hy⟩ := i.all y (by rw [e]; exact List.mem_cons_self ..)
    refine ⟨y :: fs, PySem.W.KatTups.cons ho hc hdt ?_ k, by simp [hl], ?_⟩
    · have z := congrArg (fun l : List Value => l[0]?) e
      simpa using z
    · intro f hf
      rcases List.mem_cons.mp hf with rfl | hf
      · exact ⟨m, t, hy⟩
      · exact hi f hf
theorem sortable {a : Addr} {vs : List Value} {k : Value → List Int} (h2 : 2 ≤ vs.length) (hv : ∀ v ∈ vs, TS.TupInts s.heap v (k v) ∧ k v ≠ []) (ha : ∀ o, s.heap.get? a = some o → o.cls ≠ .type "tuple") : SrtO.SortableO prog w A s a vs fun v u => HT.lexLt (k v) (k u) := by
  intro h' keep
  have hv' : ∀ v ∈ vs, TS.TupInts h' v (k v) := fun v hm => by
    obtain ⟨b, xs, e, ⟨o, ho, hc, n, hd⟩, i⟩ := (hv v hm).1
    exact ⟨b, xs, e, ⟨o, keep b o (fun z => ha o (by rw [← z]; exact ho) hc) ho, hc, n, hd⟩, i⟩
  obtain ⟨fs, h1, hl, h3⟩ := firsts vs fun v hm => ⟨k v, hv' v hm, (hv v hm).2⟩
  refine ⟨tuples' true, fun Q E hq => ?_, tup_cmp (s := { s with heap := h' }) hv'⟩
  refine PySem.W.kat_kind (s := { s with heap := h' }) (T := .type "int") h1 (by omega) (fun f hm => ?_) (by rfl) ?_
  · obtain ⟨x, t, rfl⟩ := h3 f hm
    exact PySem.W.Looks.now
  · exact hq
end
section
variable {prog : Program} {w : World} {A : Around} {E : Value → Shared → Prop} {s : Shared}
theorem sorted_list {l : Addr} {vs : List Value} {k : Value → List Int} {Q : Value → Shared → Prop} (hl : s.heap.IsList l vs.toArray) (hz : vs.length ≤ sizeLine) (hv : ∀ v ∈ vs, TS.TupInts s.heap v (k v)) (hn : 2 ≤ vs.length → ∀ v ∈ vs, k v ≠ [])
    (h : ∀ out : List Value, SrtO.Srtd (fun v u => HT.lexLt (k v) (k u)) out → SrtO.Stb (fun v u => HT.lexLt (k v) (k u)) out vs → Q (.ref (s.heap.objs.size + 1)) { s with heap := sortedAll s.heap vs out.toArray }) :
    wpAny (model prog w) A (call (.builtin "sorted") [.ref l]) Q E s := by
  refine SrtO.sorted_ord (NtL.swo_lexL k) hl hz (fun h2 h₁ a ha kk => ?_) h
  refine sortable (s := { s with heap := h₁ }) h2 (fun v hm => ⟨?_, hn h2 v hm⟩) fun o e => ?_
  · obtain ⟨b, xs, e, ⟨o, ho, hc, n, hd⟩, i⟩ := hv v hm
    exact ⟨b, xs, e, ⟨o, (kk b o ho).2, hc, n, hd⟩, i⟩
  · have e' : some o = some (seqObj "list" vs.toArray 0) := e.symm.trans ha
    cases e'
    intro c
    exact absurd (Value.type.inj c) (by decide)
end
section
variable {P : Program} {w : World} {A : Around} {E : Value → Shared → Prop} {s : Shared}
theorem sorted_set {a : Addr} {L : List (Addr × List Int)} {es : Array (Int × Value)} {ep : Nat} {t : SetTable} {Q : Value → Shared → Prop} (R : SetTR P w s.heap a L es ep t) (hh : A.handled = none)
    (hB : 2 ≤ L.length → ∀ p ∈ L, p.2 ≠ [])
    (hQ : ∀ s' p (c : Nat) (L' : List (Addr × List Int)), (∀ b o, s.heap.get? b = some o → s'.heap.get? b = some o) → s'.gens = s.gens → s'.os = s.os → s.heap.objs.size ≤ p →
      s'.heap.get? p = some (seqObj "list" (L'.map fun q => Value.ref q.1).toArray c) → L'.Perm L → L'.Pairwise (fun q r => HT.lexLt r.2 q.2 = false) → Q (.ref p) s') :
    wpAny (model P w) A (call (.builtin "sorted") [.ref a]) Q E s := by
  obtain ⟨o, ho, hex, hd⟩ := R.ob
  have hsz := R.size
  have hfew := R.few
  apply Calls.call_function_entry kind_sorted plain_sorted entry_sorted (args_sorted1 _)
  unfold Builtin.«sorted»
  apply wpAny_bind (m := checkCount "sorted" 1 1 _)
  apply wpAny_pure
  refine wpAny_bind (collect_set (A := A.in1) hh ⟨o, ho, hex.1, hd⟩ R.fits (by unfold scanBound; omega) R.tab.ris R.led fun s1 vs k1 hz g1 o1 pm => ?_)
  have hes : es.toList.map (·.2) = L.map fun q => Value.ref q.1 := by
    rw [R.rows]
    unfold rowsOf
    rw [List.map_map] <;> rfl
  rw [hes] at pm
  have lv : vs.length = L.length := by rw [pm.length_eq, List.length_map]
  have one : ∀ q ∈ L, ∀ r ∈ L, q.1 = r.1 → q = r := fun q hq r hr e => by
    have a1 := R.tup q hq
    have a2 := R.tup r hr
    rw [e] at a1
    exact Prod.ext e (a1.inj a2)
  -- what an address holds
  obtain ⟨k, hk⟩ : ∃ k : Value → List Int, ∀ q ∈ L, k (Value.ref q.1) = q.2 := ⟨fun v => match L.find? (fun q => Value.ref q.1 == v) with | some q => q.2 | none => [], fun q hq => by
    have h1 : ∃ r, L.find? (fun r => Value.ref r.1 == Value.ref q.1) = some r := by
      cases z : L.find? (fun r => Value.ref r.1 == Value.ref q.1) with
      | some r => exact ⟨r, rfl⟩
      | none =>
        have := List.find?_eq_none.mp z q hq
        exact absurd (by simp) this
    obtain ⟨r, hr⟩ := h1
    have h2 := List.find?_some hr
    have h3 : r.1 = q.1 := by
      have : Value.ref r.1 = Value.ref q.1 := by simpa using h2
      exact Value.ref.inj this
    have h4 := one r (List.mem_of_find?_eq_some hr) q hq h3
    show (match L.find? (fun r => Value.ref r.1 == Value.ref q.1) with | some q => q.2 | none => []) = q.2
    rw [hr, h4]⟩
  refine wpAny_bind (wpAny_newList ?_ (by rw [sizeLine_eq]; omega))
  have hoL : (s1.heap.push (seqObj "list" vs.toArray 0)).get? s1.heap.objs.size = some (seqObj "list" vs.toArray 0) := Heap.get?_push_size _ rfl
  have hv : ∀ v ∈ vs, TS.TupInts (s1.heap.push (seqObj "list" vs.toArray 0)) v (k v) := fun v hm => by
    obtain ⟨q, hq, rfl⟩ := List.mem_map.mp (pm.mem_iff.mp hm)
    rw [hk q hq]
    exact tupInts_of (P := P) (w := w) (isT_keep (R.tup q hq) fun b u e => Heap.get?_push_of_some _ (k1 b u e))
  have run := SrtO.list_sort_ord (prog := P) (w := w) (A := A.in1.in1) (E := E) (s := { s1 with heap := s1.heap.push (seqObj "list" vs.toArray 0) }) (R := fun r s' => ∃ v, r = .done (.ret v) ∧ (v = .none ∧ ∃ out : List Value, SrtO.Srtd (fun v u => HT.lexLt (k v) (k u)) out ∧ out.Perm vs ∧ s' = { s1 with heap := sortedHeap (s1.heap.push (seqObj "list" vs.toArray 0)) s1.heap.objs.size vs out.toArray })) (NtL.swo_lexL k) hoL (by rw [sizeLine_eq]; omega) (fun h2 => sortable h2 (fun v hm => ⟨hv v hm, by
      obtain ⟨q, hq, rfl⟩ := List.mem_map.mp (pm.mem_iff.mp hm)
      rw [hk q hq]
      exact hB (by omega) q hq⟩) fun o e c => by
    have e2 := e.symm.trans hoL
    cases e2
    exact absurd (Value.type.inj c) (by decide)) fun out h1 h2 => ⟨_, rfl, rfl, out, h1, h2.perm, rfl⟩
  refine wpAny_bind (wpAny_holding (wpAny_mono (wpAny_call_entry (Q := fun v s' => v = .none ∧ ∃ out : List Value, SrtO.Srtd (fun v u => HT.lexLt (k v) (k u)) out ∧ out.Perm vs ∧ s' = { s1 with heap := sortedHeap (s1.heap.push (seqObj "list" vs.toArray 0)) s1.heap.objs.size vs out.toArray }) slot_list_sort ⟨_, hoL, rfl⟩ entry_list_sort run (args_list_sort _)) (fun v s' z => ?_) fun _ _ z => z))
  obtain ⟨rfl, out, so, po, rfl⟩ := z
  -- the values are the addresses of the rows, in some order
  have ord : ∀ vs : List Value, (∀ v ∈ vs, ∃ q ∈ L, v = Value.ref q.1) → ∃ L1 : List (Addr × List Int), vs = L1.map (fun q => Value.ref q.1) ∧ ∀ q ∈ L1, q ∈ L := by
    intro vs
    induction vs with
    | nil => intro _; exact ⟨[], rfl, fun q hq => (by cases hq)⟩
    | cons v vs ih =>
      intro hv
      obtain ⟨q, hq, e⟩ := hv v List.mem_cons_self
      obtain ⟨L1, e1, hs⟩ := ih fun u hu => hv u (List.mem_cons_of_mem _ hu)
      refine ⟨q :: L1, by rw [List.map_cons, e, e1], fun r hr => ?_⟩
      rcases List.mem_cons.mp hr with z | z
      · rw [z]; exact hq
      · exact hs r z
  have perm_of : ∀ L1 : List (Addr × List Int), (∀ q ∈ L1, q ∈ L) → (L1.map (fun q => Value.ref q.1)).Perm (L.map fun q => Value.ref q.1) → L1.Perm L := by
    intro L1 hs pm1
    have nL : L.Nodup := nodup_of_map R.nd
    have nref : (L.map fun q => Value.ref q.1).Nodup := by
      refine List.pairwise_map.mpr (List.Pairwise.imp_of_mem (fun {q r} hq hr hne e => ?_) nL)
      injection e with e
      exact hne (one q hq r hr e)
    have n1 : L1.Nodup := nodup_of_map (pm1.nodup_iff.mpr nref)
    refine (List.perm_ext_iff_of_nodup n1 nL).mpr fun q => ⟨hs q, fun hq => ?_⟩
    have hm : Value.ref q.1 ∈ L1.map (fun q => Value.ref q.1) := pm1.mem_iff.mpr (List.mem_map.mpr ⟨q, hq, rfl⟩)
    obtain ⟨r, hr, e⟩ := List.mem_map.mp hm
    injection e with e
    rw [← one r (hs r hr) q hq e]
    exact hr
  obtain ⟨L', e', hs'⟩ := ord out fun v hv => by
    obtain ⟨q, hq, e⟩ := List.mem_map.mp (pm.mem_iff.mp (po.mem_iff.mp hv))
    exact ⟨q, hq, e.symm⟩
  have pL : L'.Perm L := perm_of L' hs' (by rw [← e']; exact po.trans pm)
  obtain ⟨c, hc⟩ := sortedHeap_at (vs := vs) (out := out.toArray) hoL
  have pw : L'.Pairwise (fun q r => HT.lexLt r.2 q.2 = false) := by
    rw [e'] at so
    refine List.Pairwise.imp_of_mem (fun {q r} hq hr z => ?_) (List.pairwise_map.mp so)
    have z' : HT.lexLt (k (Value.ref r.1)) (k (Value.ref q.1)) = false := z
    rw [hk q (hs' q hq), hk r (hs' r hr)] at z'
    exact z'
  rw [e'] at hc
  refine wpAny_pure ⟨_, rfl, hQ _ s1.heap.objs.size c L' (fun b u e => ?_) g1 o1 hz (by rw [e']; exact hc) pL pw⟩
  have q := k1 b u e
  have hlt := Heap.lt_size q
  show Heap.get? (sortedHeap _ _ vs out.toArray) b = some u
  rw [sortedHeap_old (Nat.ne_of_lt hlt) (by rw [size_push']; exact Nat.lt_succ_of_lt hlt)]
  exact Heap.get?_push_of_some _ q
end
section
variable {X : Cx}
/-- sorted(set) of tuples of ints of several lengths -/
def rSortedS (K : PySem.W.Frag) (P : Program) (w : World) : List V → Hp → VK → Prop := fun vs H Q => ∃ (a : Addr) (L : List (Addr × List Int)), vs = [V.ref a] ∧ H a = some (SetTO P w a L) ∧ (∀ p ∈ L, SqT K H p.1 (p.2.map V.int)) ∧ ((L.map (·.2)).Nodup → 2 ≤ L.length → ∀ p ∈ L, p.2 ≠ []) ∧
  ∀ (L' : List (Addr × List Int)) (p : Addr), L'.Perm L → (L'.map (·.2)).Nodup → L'.Pairwise (fun q r => HT.lexLt r.2 q.2 = false) → H p = none → Q (.ref p) (upd H p (.lst (L'.map fun q => V.ref q.1)))
theorem cr_sortedS (hc : X.calm = true) : CallR X (.builtin "sorted") (rSortedS X.K X.prog X.w) := by
  intro pins s σ H vs us Q I r h
  obtain ⟨a, L, rfl, ha, hk, hB, q⟩ := h
  have R0 : SetT0 X.prog X.w s.heap a L := (I.hok a _ ha).1
  obtain ⟨es, ep, t, R⟩ := R0.full fun p hp => I.isT (hk p hp)
  rw [Vals.ref1 r]
  refine sorted_set R (I.ok.hd hc) (hB R.nd) fun s' p c L' k g o hp hg pm pw => ?_
  have hfew := R.few
  have hl := pm.length_eq
  have hn : H p = none := I.hok.fresh hp
  have J : Inv X pins σ (upd H p (.lst (L'.map fun q => V.ref q.1))) { s with heap := s'.heap, gens := s'.gens, drawn := s'.drawn, toks := s'.toks } :=
    I.call (ch := []) (Un.laid k hp hn) (I.hok.laid k hp ⟨by rw [List.length_map, sizeLine_eq]; omega, L'.map (fun q => Value.ref q.1), c, vals_of_refs L', hg⟩) (by rw [g]; exact I.bare) (fun _ z => nomatch z)
  have e : s' = { s with heap := s'.heap, gens := s'.gens, drawn := s'.drawn, toks := s'.toks } := by
    cases s'
    cases s
    cases o
    rfl
  rw [e]
  exact ⟨.ref p, _, J, rfl, q L' p pm ((pm.map (·.2)).nodup_iff.mpr R.nd) pw hn⟩
end
section
variable {X : Cx}
/-- sorted(xs), xs a list of tuples of ints (k says which) of several lengths: a new list of the same, in the tuples' order -/
def rSortedL (K : PySem.W.Frag) : List V → Hp → VK → Prop := fun vs H Q => ∃ (a : Addr) (xs : List V) (k : V → List Int), vs = [V.ref a] ∧ SqL K H a xs ∧ (∀ x ∈ xs, TupI K H x (k x)) ∧ (2 ≤ xs.length → ∀ x ∈ xs, k x ≠ []) ∧
  ∀ (ys : List V) (p : Addr), ys.Perm xs → ys.Pairwise (fun x y => HT.lexLt (k y) (k x) = false) → H p = none → Q (.ref p) (upd H p (.lst ys))
theorem cr_sortedL : CallR X (.builtin "sorted") (rSortedL X.K) := by
  intro pins s σ H vs us Q I r h
  obtain ⟨a, xs, k, rfl, hs, hx, hn, q⟩ := h
  obtain ⟨its, rv, hl, hz⟩ := I.list hs
  rw [Vals.ref1 r]
  obtain ⟨e1, e2⟩ := bkV_refs rv fun x m => by
    obtain ⟨t, e, _⟩ := hx x m
    exact ⟨t, e⟩
  refine sorted_list (k := fun u => k (bkV u)) hl.isList (by rw [← rv.length]; exact hz) (fun v hv => ?_) (fun h2 v hv => ?_) fun out h1 h2 => ?_
  · obtain ⟨t, rfl⟩ := e2 v hv
    have hm : V.ref t ∈ xs := by rw [e1]; exact List.mem_map.mpr ⟨_, hv, rfl⟩
    obtain ⟨t', e, ht⟩ := hx _ hm
    cases e
    exact tupI_raw I ht
  · exact hn (by rw [rv.length]; exact h2) _ (by rw [e1]; exact List.mem_map.mpr ⟨_, hv, rfl⟩)
  · obtain ⟨ep, he'⟩ := PyProof.Rows.sortedAll_at s.heap its out.toArray
    have h3 : ∀ u ∈ out, ∃ a, u = Value.ref a := fun u hu => e2 u (h2.perm.mem_iff.mp hu)
    have hp : (out.map bkV).Perm xs := by
      rw [e1]
      exact h2.perm.map bkV
    have hlen : (out.map bkV).length ≤ sizeLine := by
      rw [hp.length_eq]
      exact hz
    refine ⟨.ref _, upd H (s.heap.objs.size + 1) (.lst (out.map bkV)), I.laid (t' := s.toks) (fun _ _ => PyProof.Rows.sortedAll_old) (Nat.le_succ _) ⟨hlen, out, ep, bkV_vals h3, by simpa using he'⟩, rfl, q _ _ hp ?_ (I.hok.fresh (Nat.le_succ _))⟩
    exact List.pairwise_map.mpr (h1.imp fun {x y} z => z)
end
end TupS

set_option Elab.async false
set_option linter.all false
set_option maxRecDepth 100000
set_option maxHeartbeats 1000000
/-! if in a generator def; a generator def's promise by its facts; f() of a generator def handed to list -/
namespace GenIf
open PySem PySem.Spec PyProof.Rows L2
section
variable {X : Cx}
def tGIf (tc : TT) (t u : TGn) : TGn := fun D ys σ H => tc σ H fun d H1 => if d = true then t D ys σ H1 else u D ys σ H1
theorem gs_if {c : Expr} {a b : List Stmt} {pos : Pos} {tc : TT} {t u : TGn} (hc : PT X c tc) (ha : GSs X a t) (hb : GSs X b u) : GS X (.If c a b pos) (tGIf tc t u) := by
  refine ⟨fun A S ip R n ys s₀ cc fs K J gd lv s σ H D g hn k hI ht => ?_⟩
  obtain ⟨acc, q, r, I⟩ := hI
  rw [exec_If]
  refine seg_at ?_
  refine seg_bind_wrap ?_
  rw [g.over]
  refine wpAny_pure ?_
  refine seg_bind_wrap ?_
  rw [g.over]
  refine wpAny_mono (hc.run _ s σ H _ I ht) (fun d s' hd => ?_) fun x s' hx => k.exc n s₀ x s' hx
  obtain ⟨H1, I1, q1⟩ := hd
  cases d with
  | true => exact ha.run A S ip R n ys s₀ cc fs K J gd lv s' σ H1 D g hn k ⟨acc, q, r, I1⟩ q1
  | false => exact hb.run A S ip R n ys s₀ cc fs K J gd lv s' σ H1 D g hn k ⟨acc, q, r, I1⟩ q1
theorem passG : Passes (CX X.prog X.w) X (fun _ _ _ => False) := fun pins σ H s e s' I h => by
  obtain ⟨a, B, H', cls, d, _, _, _, _, _, _, _, z⟩ := h
  exact z.elim
theorem noStop0 {K : PySem.W.Frag} : NoStop K (fun _ _ _ => False) := fun _ _ _ h => h.elim
end
section
variable {P : Program} {w : World} {K : PySem.W.Frag} {mg : Str → Option Value} {base : Heap} {x qual : Str} {params : Arguments} {body : List Stmt} {scope : Scope} {dvs : List V} {kws : List (Str × V)} {f : Addr} {fd : FuncData}
theorem gfnD {N ps : List Str} {k : Nat} {sp : SpG} (F : FunD K x qual params body scope dvs kws f fd) (S : GScope N ps scope) (len : ∀ vs H Q E, sp vs H Q E → vs.length = ps.length)
    (hbody : ∀ (cdv : Value) (A : Around) (outer : List Env) (s : Shared) (H : Hp) (vs : List V) (Q : List V → Hp → Prop) (E : XK) (pn : List (Addr × Obj)), Room k (A.deeper (envOfC qual scope s.heap.objs.size f cdv)) → sp vs H Q E →
      ∃ t, GSs (gcxOf P w K mg base N qual scope f cdv A outer s H E pn) body t ∧ t { nx := fun ys _ H' => Q ys H', rt := fun ys v H' => v = .non ∧ Q ys H' } [] (start N vs) H) :
    GFn P w K mg base (k + 1) f fd ps sp := by
  obtain ⟨oc, od, dV, kV, doc, pm, an, cdv, ct, osl, rfl, lk, hcd, _, _⟩ := F.ex
  exact gfn_of lk hcd S len fun A outer s H vs Q E pn hr hsp => hbody cdv A outer s H vs Q E pn hr hsp
end
end GenIf

set_option Elab.async false
set_option linter.all false
/-! list(xs) of a list or a tuple, the fragment named (for comprehensions) -/
namespace ListOf
open PySem PySem.Spec PyProof.Rows L2
end ListOf

set_option Elab.async false
set_option linter.all false
set_option maxRecDepth 100000
set_option maxHeartbeats 4000000
namespace K27
open PySem PySem.Spec PyProof.Rows L2
theorem hu64 {k : Nat} {A : Around} (hr : Room k A) : A.units + 64 < cLine := hr.units
theorem same_upd0 {H : Hp} {p : Addr} {o : HO} (h : H p = none) : Same H (upd H p o) := fun b x e => by
  rw [upd_ne (ne_of_none e h)]
  exact e
def topS (i : Nat) : Stmt := PySem.Challenge.pw_sourceforms_k27_whole_boxes_turned_and_l.main.body.getD i (.Pass ⟨0, 0, 0, 0⟩)
abbrev FnP (K : PySem.W.Frag) (x : Str) (st : Stmt) (f : Addr) (fd : FuncData) : Prop := FunD K x x (defArgs st) (defBody st) (defScope st) [] [] f fd
abbrev s_is_whole : Stmt := topS 5
abbrev N_is_whole : List Str := ["value"]
theorem sc_is_whole : FnScope N_is_whole ["value"] (defScope s_is_whole) := ⟨rfl, rfl, rfl, by decide +kernel, rfl, by decide +kernel, by decide +kernel⟩
abbrev s_is_from : Stmt := topS 6
abbrev N_is_from : List Str := ["value", "least", "most"]
theorem sc_is_from : FnScope N_is_from ["value", "least", "most"] (defScope s_is_from) := ⟨rfl, rfl, rfl, by decide +kernel, rfl, by decide +kernel, by decide +kernel⟩
abbrev s_row_in : Stmt := topS 10
abbrev N_row_in : List Str := ["parts", "most", "row", "part", "wide", "place"]
theorem sc_row_in : FnScope N_row_in ["parts", "most"] (defScope s_row_in) := ⟨rfl, rfl, rfl, by decide +kernel, rfl, by decide +kernel, by decide +kernel⟩
abbrev s_count_in : Stmt := topS 11
abbrev N_count_in : List Str := ["weight", "row"]
theorem sc_count_in : FnScope N_count_in ["weight", "row"] (defScope s_count_in) := ⟨rfl, rfl, rfl, by decide +kernel, rfl, by decide +kernel, by decide +kernel⟩
abbrev s_require_part : Stmt := topS 12
abbrev N_require_part : List Str := ["value"]
theorem sc_require_part : FnScope N_require_part ["value"] (defScope s_require_part) := ⟨rfl, rfl, rfl, by decide +kernel, rfl, by decide +kernel, by decide +kernel⟩
abbrev s_require_weight : Stmt := topS 13
abbrev N_require_weight : List Str := ["value"]
theorem sc_require_weight : FnScope N_require_weight ["value"] (defScope s_require_weight) := ⟨rfl, rfl, rfl, by decide +kernel, rfl, by decide +kernel, by decide +kernel⟩
abbrev s_is_box : Stmt := topS 14
abbrev N_is_box : List Str := ["value", "member", "one", "other"]
theorem sc_is_box : FnScope N_is_box ["value"] (defScope s_is_box) := ⟨rfl, rfl, rfl, by decide +kernel, rfl, by decide +kernel, by decide +kernel⟩
abbrev s_require_box : Stmt := topS 15
abbrev N_require_box : List Str := ["value"]
theorem sc_require_box : FnScope N_require_box ["value"] (defScope s_require_box) := ⟨rfl, rfl, rfl, by decide +kernel, rfl, by decide +kernel, by decide +kernel⟩
abbrev s_box_count : Stmt := topS 16
abbrev N_box_count : List Str := ["weight", "parts", "most"]
theorem sc_box_count : FnScope N_box_count ["weight", "parts", "most"] (defScope s_box_count) := ⟨rfl, rfl, rfl, by decide +kernel, rfl, by decide +kernel, by decide +kernel⟩
abbrev s_boxes : Stmt := topS 17
abbrev N_boxes : List Str := ["weight", "parts", "most", "waiting", "begun", "left", "cap", "room", "member"]
theorem sc_boxes : GScope N_boxes ["weight", "parts", "most"] (defScope s_boxes) := ⟨rfl, rfl, rfl, by decide +kernel, rfl, by decide +kernel, by decide +kernel⟩
abbrev s_turned_box : Stmt := topS 18
abbrev N_turned_box : List Str := ["box", "greatest", "member", "least"]
theorem sc_turned_box : FnScope N_turned_box ["box"] (defScope s_turned_box) := ⟨rfl, rfl, rfl, by decide +kernel, rfl, by decide +kernel, by decide +kernel⟩
abbrev s_left_box : Stmt := topS 19
abbrev N_left_box : List Str := ["box", "parts", "most", "member", "wide", "place"]
theorem sc_left_box : FnScope N_left_box ["box", "parts", "most"] (defScope s_left_box) := ⟨rfl, rfl, rfl, by decide +kernel, rfl, by decide +kernel, by decide +kernel⟩
abbrev s_law_dice : Stmt := topS 21
abbrev N_law_dice : List Str := ["_law_script", "_law_spot", "_law_cell", "_law_left"]
theorem sc_law_dice : FnScope N_law_dice ["_law_script", "_law_spot"] (defScope s_law_dice) := ⟨rfl, rfl, rfl, by decide +kernel, rfl, by decide +kernel, by decide +kernel⟩
abbrev s_law_roll : Stmt := topS 22
abbrev N_law_roll : List Str := ["_law_dice_here", "_law_total", "_law_found", "_law_one", "_law_two"]
theorem sc_law_roll : FnScope N_law_roll ["_law_dice_here", "_law_total"] (defScope s_law_roll) := ⟨rfl, rfl, rfl, by decide +kernel, rfl, by decide +kernel, by decide +kernel⟩
abbrev s_law_pick : Stmt := topS 23
abbrev N_law_pick : List Str := ["_law_dice_here", "_law_items"]
theorem sc_law_pick : FnScope N_law_pick ["_law_dice_here", "_law_items"] (defScope s_law_pick) := ⟨rfl, rfl, rfl, by decide +kernel, rfl, by decide +kernel, by decide +kernel⟩
abbrev s_law_boxes : Stmt := topS 24
abbrev N_law_boxes : List Str := ["_law_weight", "_law_parts", "_law_most", "_law_found", "_law_turn", "_law_longer", "_law_box_here", "_law_left", "_law_high", "_law_value", "_law_told"]
theorem sc_law_boxes : FnScope N_law_boxes ["_law_weight", "_law_parts", "_law_most"] (defScope s_law_boxes) := ⟨rfl, rfl, rfl, by decide +kernel, rfl, by decide +kernel, by decide +kernel⟩
abbrev s_law_turned : Stmt := topS 25
abbrev N_law_turned : List Str := ["_law_box_here", "_law_value", "_law_row"]
theorem sc_law_turned : FnScope N_law_turned ["_law_box_here"] (defScope s_law_turned) := ⟨rfl, rfl, rfl, by decide +kernel, rfl, by decide +kernel, by decide +kernel⟩
abbrev s_law_box : Stmt := topS 26
abbrev N_law_box : List Str := ["_law_dice_here", "_law_high", "_law_found", "_law_turn"]
theorem sc_law_box : FnScope N_law_box ["_law_dice_here"] (defScope s_law_box) := ⟨rfl, rfl, rfl, by decide +kernel, rfl, by decide +kernel, by decide +kernel⟩
abbrev s_law_box_right : Stmt := topS 27
abbrev N_law_box_right : List Str := ["_law_dice_here", "_law_box_here", "_law_told", "_law_parts", "_law_high", "_law_most", "_law_left", "_law_due", "_law_value"]
theorem sc_law_box_right : FnScope N_law_box_right ["_law_dice_here"] (defScope s_law_box_right) := ⟨rfl, rfl, rfl, by decide +kernel, rfl, by decide +kernel, by decide +kernel⟩
abbrev s_law : Stmt := topS 28
abbrev N_law : List Str := ["_law_script", "_law_spot", "_law_dice_here", "_law_parts", "_law_most", "_law_weight", "_law_told", "_law_box_here"]
theorem sc_law : FnScope N_law ["_law_script"] (defScope s_law) := ⟨rfl, rfl, rfl, by decide +kernel, rfl, by decide +kernel, by decide +kernel⟩
/-- where the defs stand, what the names of the module are -/
structure Facts (K : PySem.W.Frag) (mg : Str → Option Value) where
  f_is_whole : Addr
  fd_is_whole : FuncData
  F_is_whole : FnP K "is_whole" s_is_whole f_is_whole fd_is_whole
  g_is_whole : mg "is_whole" = some (.ref f_is_whole)
  b_is_whole : Binds K fd_is_whole ["value"] []
  f_is_from : Addr
  fd_is_from : FuncData
  F_is_from : FnP K "is_from" s_is_from f_is_from fd_is_from
  g_is_from : mg "is_from" = some (.ref f_is_from)
  b_is_from : Binds K fd_is_from ["value", "least", "most"] []
  f_row_in : Addr
  fd_row_in : FuncData
  F_row_in : FnP K "row_in" s_row_in f_row_in fd_row_in
  g_row_in : mg "row_in" = some (.ref f_row_in)
  b_row_in : Binds K fd_row_in ["parts", "most"] []
  f_count_in : Addr
  fd_count_in : FuncData
  F_count_in : FnP K "count_in" s_count_in f_count_in fd_count_in
  g_count_in : mg "count_in" = some (.ref f_count_in)
  b_count_in : Binds K fd_count_in ["weight", "row"] []
  f_require_part : Addr
  fd_require_part : FuncData
  F_require_part : FnP K "require_part" s_require_part f_require_part fd_require_part
  g_require_part : mg "require_part" = some (.ref f_require_part)
  b_require_part : Binds K fd_require_part ["value"] []
  f_require_weight : Addr
  fd_require_weight : FuncData
  F_require_weight : FnP K "require_weight" s_require_weight f_require_weight fd_require_weight
  g_require_weight : mg "require_weight" = some (.ref f_require_weight)
  b_require_weight : Binds K fd_require_weight ["value"] []
  f_is_box : Addr
  fd_is_box : FuncData
  F_is_box : FnP K "is_box" s_is_box f_is_box fd_is_box
  g_is_box : mg "is_box" = some (.ref f_is_box)
  b_is_box : Binds K fd_is_box ["value"] []
  f_require_box : Addr
  fd_require_box : FuncData
  F_require_box : FnP K "require_box" s_require_box f_require_box fd_require_box
  g_require_box : mg "require_box" = some (.ref f_require_box)
  b_require_box : Binds K fd_require_box ["value"] []
  f_box_count : Addr
  fd_box_count : FuncData
  F_box_count : FnP K "box_count" s_box_count f_box_count fd_box_count
  g_box_count : mg "box_count" = some (.ref f_box_count)
  b_box_count : Binds K fd_box_count ["weight", "parts", "most"] []
  f_boxes : Addr
  fd_boxes : FuncData
  F_boxes : FnP K "boxes" s_boxes f_boxes fd_boxes
  g_boxes : mg "boxes" = some (.ref f_boxes)
  b_boxes : Binds K fd_boxes ["weight", "parts", "most"] []
  f_turned_box : Addr
  fd_turned_box : FuncData
  F_turned_box : FnP K "turned_box" s_turned_box f_turned_box fd_turned_box
  g_turned_box : mg "turned_box" = some (.ref f_turned_box)
  b_turned_box : Binds K fd_turned_box ["box"] []
  f_left_box : Addr
  fd_left_box : FuncData
  F_left_box : FnP K "left_box" s_left_box f_left_box fd_left_box
  g_left_box : mg "left_box" = some (.ref f_left_box)
  b_left_box : Binds K fd_left_box ["box", "parts", "most"] []
  f_law_dice : Addr
  fd_law_dice : FuncData
  F_law_dice : FnP K "_law_dice" s_law_dice f_law_dice fd_law_dice
  g_law_dice : mg "_law_dice" = some (.ref f_law_dice)
  b_law_dice : Binds K fd_law_dice ["_law_script", "_law_spot"] []
  f_law_roll : Addr
  fd_law_roll : FuncData
  F_law_roll : FnP K "_law_roll" s_law_roll f_law_roll fd_law_roll
  g_law_roll : mg "_law_roll" = some (.ref f_law_roll)
  b_law_roll : Binds K fd_law_roll ["_law_dice_here", "_law_total"] []
  f_law_pick : Addr
  fd_law_pick : FuncData
  F_law_pick : FnP K "_law_pick" s_law_pick f_law_pick fd_law_pick
  g_law_pick : mg "_law_pick" = some (.ref f_law_pick)
  b_law_pick : Binds K fd_law_pick ["_law_dice_here", "_law_items"] []
  f_law_boxes : Addr
  fd_law_boxes : FuncData
  F_law_boxes : FnP K "_law_boxes" s_law_boxes f_law_boxes fd_law_boxes
  g_law_boxes : mg "_law_boxes" = some (.ref f_law_boxes)
  b_law_boxes : Binds K fd_law_boxes ["_law_weight", "_law_parts", "_law_most"] []
  f_law_turned : Addr
  fd_law_turned : FuncData
  F_law_turned : FnP K "_law_turned" s_law_turned f_law_turned fd_law_turned
  g_law_turned : mg "_law_turned" = some (.ref f_law_turned)
  b_law_turned : Binds K fd_law_turned ["_law_box_here"] []
  f_law_box : Addr
  fd_law_box : FuncData
  F_law_box : FnP K "_law_box" s_law_box f_law_box fd_law_box
  g_law_box : mg "_law_box" = some (.ref f_law_box)
  b_law_box : Binds K fd_law_box ["_law_dice_here"] []
  f_law_box_right : Addr
  fd_law_box_right : FuncData
  F_law_box_right : FnP K "_law_box_right" s_law_box_right f_law_box_right fd_law_box_right
  g_law_box_right : mg "_law_box_right" = some (.ref f_law_box_right)
  b_law_box_right : Binds K fd_law_box_right ["_law_dice_here"] []
  f_law : Addr
  fd_law : FuncData
  F_law : FnP K "law" s_law f_law fd_law
  g_law : mg "law" = some (.ref f_law)
  b_law : Binds K fd_law ["_law_script"] []
  z_abs : mg "abs" = none
  z_all : mg "all" = none
  z_any : mg "any" = none
  z_bool : mg "bool" = none
  z_int : mg "int" = none
  z_isinstance : mg "isinstance" = none
  z_len : mg "len" = none
  z_list : mg "list" = none
  z_max : mg "max" = none
  z_min : mg "min" = none
  z_range : mg "range" = none
  z_set : mg "set" = none
  z_sorted : mg "sorted" = none
  z_sum : mg "sum" = none
  z_tuple : mg "tuple" = none
  z_zip : mg "zip" = none
  c_MAX_PARTS : ∃ t, mg "MAX_PARTS" = some (.int 40 t)
  c_MAX_WEIGHT : ∃ t, mg "MAX_WEIGHT" = some (.int 1600 t)
/-! ### for the head -/
def d_is_whole : He.DefD := ⟨("is_whole", none), "is_whole", "is_whole", defArgs s_is_whole, defBody s_is_whole, defScope s_is_whole, [], []⟩
def d_is_from : He.DefD := ⟨("is_from", none), "is_from", "is_from", defArgs s_is_from, defBody s_is_from, defScope s_is_from, [], []⟩
def d_row_in : He.DefD := ⟨("row_in", none), "row_in", "row_in", defArgs s_row_in, defBody s_row_in, defScope s_row_in, [], []⟩
def d_count_in : He.DefD := ⟨("count_in", none), "count_in", "count_in", defArgs s_count_in, defBody s_count_in, defScope s_count_in, [], []⟩
def d_require_part : He.DefD := ⟨("require_part", none), "require_part", "require_part", defArgs s_require_part, defBody s_require_part, defScope s_require_part, [], []⟩
def d_require_weight : He.DefD := ⟨("require_weight", none), "require_weight", "require_weight", defArgs s_require_weight, defBody s_require_weight, defScope s_require_weight, [], []⟩
def d_is_box : He.DefD := ⟨("is_box", none), "is_box", "is_box", defArgs s_is_box, defBody s_is_box, defScope s_is_box, [], []⟩
def d_require_box : He.DefD := ⟨("require_box", none), "require_box", "require_box", defArgs s_require_box, defBody s_require_box, defScope s_require_box, [], []⟩
def d_box_count : He.DefD := ⟨("box_count", none), "box_count", "box_count", defArgs s_box_count, defBody s_box_count, defScope s_box_count, [], []⟩
def d_boxes : He.DefD := ⟨("boxes", none), "boxes", "boxes", defArgs s_boxes, defBody s_boxes, defScope s_boxes, [], []⟩
def d_turned_box : He.DefD := ⟨("turned_box", none), "turned_box", "turned_box", defArgs s_turned_box, defBody s_turned_box, defScope s_turned_box, [], []⟩
def d_left_box : He.DefD := ⟨("left_box", none), "left_box", "left_box", defArgs s_left_box, defBody s_left_box, defScope s_left_box, [], []⟩
def d_law_dice : He.DefD := ⟨("_law_dice", none), "_law_dice", "_law_dice", defArgs s_law_dice, defBody s_law_dice, defScope s_law_dice, [], []⟩
def d_law_roll : He.DefD := ⟨("_law_roll", none), "_law_roll", "_law_roll", defArgs s_law_roll, defBody s_law_roll, defScope s_law_roll, [], []⟩
def d_law_pick : He.DefD := ⟨("_law_pick", none), "_law_pick", "_law_pick", defArgs s_law_pick, defBody s_law_pick, defScope s_law_pick, [], []⟩
def d_law_boxes : He.DefD := ⟨("_law_boxes", none), "_law_boxes", "_law_boxes", defArgs s_law_boxes, defBody s_law_boxes, defScope s_law_boxes, [], []⟩
def d_law_turned : He.DefD := ⟨("_law_turned", none), "_law_turned", "_law_turned", defArgs s_law_turned, defBody s_law_turned, defScope s_law_turned, [], []⟩
def d_law_box : He.DefD := ⟨("_law_box", none), "_law_box", "_law_box", defArgs s_law_box, defBody s_law_box, defScope s_law_box, [], []⟩
def d_law_box_right : He.DefD := ⟨("_law_box_right", none), "_law_box_right", "_law_box_right", defArgs s_law_box_right, defBody s_law_box_right, defScope s_law_box_right, [], []⟩
def d_law : He.DefD := ⟨("law", none), "law", "law", defArgs s_law, defBody s_law, defScope s_law, [], []⟩
def fnL : List He.DefD := [d_is_whole, d_is_from, d_row_in, d_count_in, d_require_part, d_require_weight, d_is_box, d_require_box, d_box_count, d_boxes, d_turned_box, d_left_box, d_law_dice, d_law_roll, d_law_pick, d_law_boxes, d_law_turned, d_law_box, d_law_box_right, d_law]
def faL : List He.Fa := [.glo "is_whole", .glo "is_from", .glo "row_in", .glo "count_in", .glo "require_part", .glo "require_weight", .glo "is_box", .glo "require_box", .glo "box_count", .glo "boxes", .glo "turned_box", .glo "left_box", .glo "_law_dice", .glo "_law_roll", .glo "_law_pick", .glo "_law_boxes", .glo "_law_turned", .glo "_law_box", .glo "_law_box_right", .glo "law", .free "abs", .free "all", .free "any", .free "bool", .free "int", .free "isinstance", .free "len", .free "list", .free "max", .free "min", .free "range", .free "set", .free "sorted", .free "sum", .free "tuple", .free "zip", .int "MAX_PARTS" 40, .int "MAX_WEIGHT" 1600]
def exL (K : PySem.W.Frag) : Bool := true
theorem facts_of {K : PySem.W.Frag} {h : Heap} {mg : Str → Option Value} (X : K.In h) (G : h.Ns mainGlobals mg) (c : He.SaysD faL fnL K) (ex : exL K = true) : Nonempty (Facts K mg) := by
  obtain ⟨fd_is_whole, F_is_whole⟩ := c.def_ 0 (d := d_is_whole) rfl
  obtain ⟨fd_is_from, F_is_from⟩ := c.def_ 1 (d := d_is_from) rfl
  obtain ⟨fd_row_in, F_row_in⟩ := c.def_ 2 (d := d_row_in) rfl
  obtain ⟨fd_count_in, F_count_in⟩ := c.def_ 3 (d := d_count_in) rfl
  obtain ⟨fd_require_part, F_require_part⟩ := c.def_ 4 (d := d_require_part) rfl
  obtain ⟨fd_require_weight, F_require_weight⟩ := c.def_ 5 (d := d_require_weight) rfl
  obtain ⟨fd_is_box, F_is_box⟩ := c.def_ 6 (d := d_is_box) rfl
  obtain ⟨fd_require_box, F_require_box⟩ := c.def_ 7 (d := d_require_box) rfl
  obtain ⟨fd_box_count, F_box_count⟩ := c.def_ 8 (d := d_box_count) rfl
  obtain ⟨fd_boxes, F_boxes⟩ := c.def_ 9 (d := d_boxes) rfl
  obtain ⟨fd_turned_box, F_turned_box⟩ := c.def_ 10 (d := d_turned_box) rfl
  obtain ⟨fd_left_box, F_left_box⟩ := c.def_ 11 (d := d_left_box) rfl
  obtain ⟨fd_law_dice, F_law_dice⟩ := c.def_ 12 (d := d_law_dice) rfl
  obtain ⟨fd_law_roll, F_law_roll⟩ := c.def_ 13 (d := d_law_roll) rfl
  obtain ⟨fd_law_pick, F_law_pick⟩ := c.def_ 14 (d := d_law_pick) rfl
  obtain ⟨fd_law_boxes, F_law_boxes⟩ := c.def_ 15 (d := d_law_boxes) rfl
  obtain ⟨fd_law_turned, F_law_turned⟩ := c.def_ 16 (d := d_law_turned) rfl
  obtain ⟨fd_law_box, F_law_box⟩ := c.def_ 17 (d := d_law_box) rfl
  obtain ⟨fd_law_box_right, F_law_box_right⟩ := c.def_ 18 (d := d_law_box_right) rfl
  obtain ⟨fd_law, F_law⟩ := c.def_ 19 (d := d_law) rfl
  exact ⟨{ f_is_whole := _, fd_is_whole := _, F_is_whole := F_is_whole, g_is_whole := He.glo_ok X G (c.fact 0 (f := .glo "is_whole") rfl), b_is_whole := (F_is_whole.bindsN fun _ _ _ _ _ _ us hl => match us, hl with | [_], _ => rfl), f_is_from := _, fd_is_from := _, F_is_from := F_is_from, g_is_from := He.glo_ok X G (c.fact 1 (f := .glo "is_from") rfl), b_is_from := (F_is_from.bindsN fun _ _ _ _ _ _ us hl => match us, hl with | [_, _, _], _ => rfl), f_row_in := _, fd_row_in := _, F_row_in := F_row_in, g_row_in := He.glo_ok X G (c.fact 2 (f := .glo "row_in") rfl), b_row_in := (F_row_in.bindsN fun _ _ _ _ _ _ us hl => match us, hl with | [_, _], _ => rfl), f_count_in := _, fd_count_in := _, F_count_in := F_count_in, g_count_in := He.glo_ok X G (c.fact 3 (f := .glo "count_in") rfl), b_count_in := (F_count_in.bindsN fun _ _ _ _ _ _ us hl => match us, hl with | [_, _], _ => rfl), f_require_part := _, fd_require_part := _, F_require_part := F_require_part, g_require_part := He.glo_ok X G (c.fact 4 (f := .glo "require_part") rfl), b_require_part := (F_require_part.bindsN fun _ _ _ _ _ _ us hl => match us, hl with | [_], _ => rfl), f_require_weight := _, fd_require_weight := _, F_require_weight := F_require_weight, g_require_weight := He.glo_ok X G (c.fact 5 (f := .glo "require_weight") rfl), b_require_weight := (F_require_weight.bindsN fun _ _ _ _ _ _ us hl => match us, hl with | [_], _ => rfl), f_is_box := _, fd_is_box := _, F_is_box := F_is_box, g_is_box := He.glo_ok X G (c.fact 6 (f := .glo "is_box") rfl), b_is_box := (F_is_box.bindsN fun _ _ _ _ _ _ us hl => match us, hl with | [_], _ => rfl), f_require_box := _, fd_require_box := _, F_require_box := F_require_box, g_require_box := He.glo_ok X G (c.fact 7 (f := .glo "require_box") rfl), b_require_box := (F_require_box.bindsN fun _ _ _ _ _ _ us hl => match us, hl with | [_], _ => rfl), f_box_count := _, fd_box_count := _, F_box_count := F_box_count, g_box_count := He.glo_ok X G (c.fact 8 (f := .glo "box_count") rfl), b_box_count := (F_box_count.bindsN fun _ _ _ _ _ _ us hl => match us, hl with | [_, _, _], _ => rfl), f_boxes := _, fd_boxes := _, F_boxes := F_boxes, g_boxes := He.glo_ok X G (c.fact 9 (f := .glo "boxes") rfl), b_boxes := (F_boxes.bindsN fun _ _ _ _ _ _ us hl => match us, hl with | [_, _, _], _ => rfl), f_turned_box := _, fd_turned_box := _, F_turned_box := F_turned_box, g_turned_box := He.glo_ok X G (c.fact 10 (f := .glo "turned_box") rfl), b_turned_box := (F_turned_box.bindsN fun _ _ _ _ _ _ us hl => match us, hl with | [_], _ => rfl), f_left_box := _, fd_left_box := _, F_left_box := F_left_box, g_left_box := He.glo_ok X G (c.fact 11 (f := .glo "left_box") rfl), b_left_box := (F_left_box.bindsN fun _ _ _ _ _ _ us hl => match us, hl with | [_, _, _], _ => rfl), f_law_dice := _, fd_law_dice := _, F_law_dice := F_law_dice, g_law_dice := He.glo_ok X G (c.fact 12 (f := .glo "_law_dice") rfl), b_law_dice := (F_law_dice.bindsN fun _ _ _ _ _ _ us hl => match us, hl with | [_, _], _ => rfl), f_law_roll := _, fd_law_roll := _, F_law_roll := F_law_roll, g_law_roll := He.glo_ok X G (c.fact 13 (f := .glo "_law_roll") rfl), b_law_roll := (F_law_roll.bindsN fun _ _ _ _ _ _ us hl => match us, hl with | [_, _], _ => rfl), f_law_pick := _, fd_law_pick := _, F_law_pick := F_law_pick, g_law_pick := He.glo_ok X G (c.fact 14 (f := .glo "_law_pick") rfl), b_law_pick := (F_law_pick.bindsN fun _ _ _ _ _ _ us hl => match us, hl with | [_, _], _ => rfl), f_law_boxes := _, fd_law_boxes := _, F_law_boxes := F_law_boxes, g_law_boxes := He.glo_ok X G (c.fact 15 (f := .glo "_law_boxes") rfl), b_law_boxes := (F_law_boxes.bindsN fun _ _ _ _ _ _ us hl => match us, hl with | [_, _, _], _ => rfl), f_law_turned := _, fd_law_turned := _, F_law_turned := F_law_turned, g_law_turned := He.glo_ok X G (c.fact 16 (f := .glo "_law_turned") rfl), b_law_turned := (F_law_turned.bindsN fun _ _ _ _ _ _ us hl => match us, hl with | [_], _ => rfl), f_law_box := _, fd_law_box := _, F_law_box := F_law_box, g_law_box := He.glo_ok X G (c.fact 17 (f := .glo "_law_box") rfl), b_law_box := (F_law_box.bindsN fun _ _ _ _ _ _ us hl => match us, hl with | [_], _ => rfl), f_law_box_right := _, fd_law_box_right := _, F_law_box_right := F_law_box_right, g_law_box_right := He.glo_ok X G (c.fact 18 (f := .glo "_law_box_right") rfl), b_law_box_right := (F_law_box_right.bindsN fun _ _ _ _ _ _ us hl => match us, hl with | [_], _ => rfl), f_law := _, fd_law := _, F_law := F_law, g_law := He.glo_ok X G (c.fact 19 (f := .glo "law") rfl), b_law := (F_law.bindsN fun _ _ _ _ _ _ us hl => match us, hl with | [_], _ => rfl), z_abs := He.free_ok X G (c.fact 20 (f := .free "abs") rfl), z_all := He.free_ok X G (c.fact 21 (f := .free "all") rfl), z_any := He.free_ok X G (c.fact 22 (f := .free "any") rfl), z_bool := He.free_ok X G (c.fact 23 (f := .free "bool") rfl), z_int := He.free_ok X G (c.fact 24 (f := .free "int") rfl), z_isinstance := He.free_ok X G (c.fact 25 (f := .free "isinstance") rfl), z_len := He.free_ok X G (c.fact 26 (f := .free "len") rfl), z_list := He.free_ok X G (c.fact 27 (f := .free "list") rfl), z_max := He.free_ok X G (c.fact 28 (f := .free "max") rfl), z_min := He.free_ok X G (c.fact 29 (f := .free "min") rfl), z_range := He.free_ok X G (c.fact 30 (f := .free "range") rfl), z_set := He.free_ok X G (c.fact 31 (f := .free "set") rfl), z_sorted := He.free_ok X G (c.fact 32 (f := .free "sorted") rfl), z_sum := He.free_ok X G (c.fact 33 (f := .free "sum") rfl), z_tuple := He.free_ok X G (c.fact 34 (f := .free "tuple") rfl), z_zip := He.free_ok X G (c.fact 35 (f := .free "zip") rfl), c_MAX_PARTS := He.int_ok X G (c.fact 36 (f := .int "MAX_PARTS" 40) rfl), c_MAX_WEIGHT := He.int_ok X G (c.fact 37 (f := .int "MAX_WEIGHT" 1600) rfl) }⟩

end K27

set_option Elab.async false
set_option linter.all false
set_option maxRecDepth 100000
set_option maxHeartbeats 0
namespace K27
open PySem PySem.Spec PyProof.Rows L2
abbrev R : PySem.W.OpenRow := PySem.W.OpenLaw.row PySem.Challenge.rw_sourceforms_k27_whole_boxes_turned_and_l
abbrev hk : PySem.W.Hook := He.hookX 4 faL fnL [] [] exL
def ob (s : PySem.W.SharedT) : He.AlX := He.obsX 4 faL fnL [] [] exL (HandSHeadRun.getT s)
theorem ob_eq (s : PySem.W.SharedT) : ob s = hk.obs s.abs := He.obsX_eq (HandSHeadRun.getT_eq s)
def loose0 : List Str := ["LetterError", "InvalidOperation", "InvalidNumber", "is_whole", "is_from", "MAX_PARTS", "MAX_WEIGHT", "row_in", "count_in", "require_part", "require_weight", "is_box", "require_box", "box_count", "boxes", "turned_box", "left_box", "_law_dice", "_law_roll", "_law_pick", "_law_boxes", "_law_turned", "_law_box", "_law_box_right"]
def loose : List Str := loose0
theorem run (w : World) : HandSHeadRun.RunEq R (PySem.W.view R.prog [28]) hk ob 6000 loose w := by
  intro os
  kernel_rfl
end K27

set_option autoImplicit false
namespace K27
/-- the number of the boxes of the weight k with at most p members, each at most m -/
def G : Nat → Nat → Int → Int
  | 0, _, k => if k = 0 then 1 else 0
  | _ + 1, 0, k => if k = 0 then 1 else 0
  | p + 1, m + 1, k => G p (m + 1) k + G (p + 1) m (k - (p + 1 : Nat))
theorem G_0 (m : Nat) (k : Int) : G 0 m k = if k = 0 then 1 else 0 := by rw [G]
theorem G_p0 (p : Nat) (k : Int) : G p 0 k = if k = 0 then 1 else 0 := by cases p <;> rw [G]
theorem G_A (p m : Nat) (k : Int) : G (p + 1) (m + 1) k = G p (m + 1) k + G (p + 1) m (k - (p + 1 : Nat)) := by rw [G]
theorem G_neg : ∀ (p m : Nat) (k : Int), k < 0 → G p m k = 0
  | 0, m, k, h => by rw [G_0, if_neg (by omega)]
  | p + 1, 0, k, h => by rw [G_p0, if_neg (by omega)]
  | p + 1, m + 1, k, h => by rw [G_A, G_neg p (m + 1) k h, G_neg (p + 1) m _ (by omega)]; rfl
theorem mul11 (p m : Nat) : ((p + 1) * (m + 1) : Nat) = p * (m + 1) + (m + 1) := Nat.succ_mul p (m + 1)
theorem mul12 (p m : Nat) : ((p + 1) * (m + 1) : Nat) = (p + 1) * m + (p + 1) := Nat.mul_succ (p + 1) m
theorem G_sup : ∀ (p m : Nat) (k : Int), ((p * m : Nat) : Int) < k → G p m k = 0
  | 0, m, k, h => by rw [G_0, if_neg (by omega)]
  | p + 1, 0, k, h => by rw [G_p0, if_neg (by omega)]
  | p + 1, m + 1, k, h => by
    have e1 := mul11 p m
    have e2 := mul12 p m
    rw [G_A, G_sup p (m + 1) k (by omega), G_sup (p + 1) m _ (by omega)]; rfl
theorem G_B : ∀ (p m : Nat) (k : Int), G (p + 1) (m + 1) k = G p (m + 1) (k - (m + 1 : Nat)) + G (p + 1) m k
  | 0, 0, k => by
    rw [G_A, G_0, G_0, G_p0, G_p0]
    simp only [Nat.zero_add]
    omega
  | 0, m + 1, k => by
    rw [G_A, G_B 0 m, G_0, G_0, G_0]
    have e := G_A 0 m k
    rw [G_0] at e
    rw [e, show k - ((0 + 1 : Nat) : Int) - ((m + 1 : Nat) : Int) = k - ((m + 1 + 1 : Nat) : Int) by omega]
    omega
  | p + 1, 0, k => by
    rw [G_A, G_B p 0, G_p0, G_p0, G_p0]
    have e := G_A p 0 (k - ((0 + 1 : Nat) : Int))
    rw [G_p0] at e
    rw [e, show k - ((0 + 1 : Nat) : Int) - ((p + 1 : Nat) : Int) = k - ((p + 1 + 1 : Nat) : Int) by omega]
    omega
  | p + 1, m + 1, k => by
    rw [G_A, G_B p (m + 1), G_B (p + 1) m]
    have e1 := G_A p (m + 1) (k - ((m + 1 + 1 : Nat) : Int))
    have e2 := G_A (p + 1) m k
    rw [e1, e2, show k - ((m + 1 + 1 : Nat) : Int) - ((p + 1 : Nat) : Int) = k - ((p + 1 + 1 : Nat) : Int) - ((m + 1 : Nat) : Int) by omega]
    omega
/-- what the program's loops do -/
theorem G_key : ∀ (p m : Nat) (k : Int), G (p + 1) m k - G (p + 1) m (k - (p + 1 : Nat)) = G p m k - G p m (k - (m + (p + 1) : Nat))
  | p, 0, k => by
    rw [G_p0, G_p0, G_p0, G_p0, show (0 + (p + 1) : Nat) = p + 1 by omega]
  | p, m + 1, k => by
    have e := G_B p m (k - ((p + 1 : Nat) : Int))
    rw [e, G_A, show k - ((p + 1 : Nat) : Int) - ((m + 1 : Nat) : Int) = k - ((m + 1 + (p + 1) : Nat) : Int) by omega]
    omega
end K27

set_option Elab.async false
set_option linter.all false
set_option maxRecDepth 100000
/-! boxes: the stack's order, the law's order, turned ones -/
namespace K27
/-- the boxes of the weight l with at most r members, each at most c: descending -/
def D : Nat → Nat → Nat → List (List Nat)
  | 0, _, l => if l = 0 then [[]] else []
  | r + 1, c, l => if l = 0 then [[]] else (List.range (min c l)).reverse.flatMap fun i => if l ≤ (i + 1) * (r + 1) then (D r (i + 1) (l - (i + 1))).map ((i + 1) :: ·) else []
theorem D_0 (c l : Nat) : D 0 c l = if l = 0 then [[]] else [] := by rw [D]
theorem D_S (r c l : Nat) : D (r + 1) c l = if l = 0 then [[]] else (List.range (min c l)).reverse.flatMap fun i => if l ≤ (i + 1) * (r + 1) then (D r (i + 1) (l - (i + 1))).map ((i + 1) :: ·) else [] := by rw [D]
theorem D_l0 (r c : Nat) : D r c 0 = [[]] := by
  cases r with
  | zero => rw [D_0, if_pos rfl]
  | succ r => rw [D_S, if_pos rfl]
theorem flat_nil {α β : Type} {f : α → List β} : ∀ {l : List α}, (∀ x ∈ l, f x = []) → l.flatMap f = []
  | [], _ => rfl
  | x :: l, h => by rw [List.flatMap_cons, h x (.head _), flat_nil fun y hy => h y (.tail _ hy)]; rfl
theorem flat_congr {α β : Type} {f g : α → List β} : ∀ {l : List α}, (∀ x ∈ l, f x = g x) → l.flatMap f = l.flatMap g
  | [], _ => rfl
  | x :: l, h => by rw [List.flatMap_cons, List.flatMap_cons, h x (.head _), flat_congr fun y hy => h y (.tail _ hy)]
theorem D_nil : ∀ (r c l : Nat), c * r < l → D r c l = []
  | 0, c, l, h => by rw [D_0, if_neg (by omega)]
  | r + 1, c, l, h => by
    rw [D_S, if_neg (by omega)]
    refine flat_nil fun i hi => ?_
    rw [List.mem_reverse, List.mem_range] at hi
    have : (i + 1) * (r + 1) ≤ c * (r + 1) := Nat.mul_le_mul_right _ (by omega)
    rw [if_neg (by omega)]
theorem D_c0 (r l : Nat) (h : 0 < l) : D r 0 l = [] := D_nil r 0 l (by omega)
/-- a form of the recursion for any room -/
theorem D_any (r c l : Nat) (h : 0 < l) : D r c l = ((List.range (min c l)).filter fun i => decide (l ≤ (i + 1) * r)).reverse.flatMap fun i => (D (r - 1) (i + 1) (l - (i + 1))).map ((i + 1) :: ·) := by
  have key : ∀ (f : Nat → List (List Nat)) (L : List Nat), (L.filter fun i => decide (l ≤ (i + 1) * r)).reverse.flatMap f = L.reverse.flatMap fun i => if l ≤ (i + 1) * r then f i else [] := by
    intro f L
    induction L with
    | nil => rfl
    | cons x L ih =>
      rw [List.reverse_cons, List.flatMap_append, ← ih]
      by_cases c : l ≤ (x + 1) * r
      · rw [List.filter_cons_of_pos (by simpa using c), List.reverse_cons, List.flatMap_append, List.flatMap_singleton, List.flatMap_singleton, if_pos c]
      · rw [List.filter_cons_of_neg (by simpa using c), List.flatMap_singleton, if_neg c, List.append_nil]
  rw [key]
  cases r with
  | zero =>
    rw [D_0, if_neg (by omega)]
    exact (flat_nil fun i _ => by rw [if_neg (by omega)]).symm
  | succ r => rw [D_S, if_neg (by omega)]; rfl
/-! ### how long the stack's loop runs -/
def nod : Nat → Nat → Nat → Nat
  | 0, _, _ => 1
  | r + 1, c, l => if l = 0 then 1 else 1 + (((List.range (min c l)).filter fun i => decide (l ≤ (i + 1) * (r + 1))).map fun i => nod r (i + 1) (l - (i + 1))).sum
theorem nod_0 (c l : Nat) : nod 0 c l = 1 := by rw [nod]
theorem nod_S (r c l : Nat) : nod (r + 1) c l = if l = 0 then 1 else 1 + (((List.range (min c l)).filter fun i => decide (l ≤ (i + 1) * (r + 1))).map fun i => nod r (i + 1) (l - (i + 1))).sum := by rw [nod]
theorem nod_pos : ∀ (r c l : Nat), 1 ≤ nod r c l
  | 0, c, l => by rw [nod_0]; exact Nat.le_refl _
  | r + 1, c, l => by rw [nod_S]; split <;> omega
theorem nod_any (r c l : Nat) (h : 0 < l) : nod r c l = 1 + (((List.range (min c l)).filter fun i => decide (l ≤ (i + 1) * r)).map fun i => nod (r - 1) (i + 1) (l - (i + 1))).sum := by
  cases r with
  | zero =>
    rw [nod_0, List.filter_eq_nil_iff.mpr fun i _ => by rw [decide_eq_true_eq]; omega]
    rfl
  | succ r => rw [nod_S, if_neg (by omega)]; rfl
theorem sum_le {B : Nat} : ∀ (l : List Nat), (∀ x ∈ l, x ≤ B) → l.sum ≤ l.length * B
  | [], _ => Nat.zero_le _
  | x :: l, h => by
    have := sum_le l fun y hy => h y (.tail _ hy)
    have := h x (.head _)
    rw [List.sum_cons, List.length_cons, Nat.succ_mul]
    omega
theorem nod_le : ∀ (r c l : Nat), nod r c l ≤ (c + 1) ^ r
  | 0, c, l => by rw [nod_0, Nat.pow_zero]; exact Nat.le_refl _
  | r + 1, c, l => by
    have p : 1 ≤ (c + 1) ^ r := Nat.pow_pos (Nat.succ_pos _)
    rw [nod_S, Nat.pow_succ, Nat.mul_succ]
    split
    · omega
    · have h1 := sum_le (B := (c + 1) ^ r) (((List.range (min c l)).filter fun i => decide (l ≤ (i + 1) * (r + 1))).map fun i => nod r (i + 1) (l - (i + 1))) fun x hx => by
        obtain ⟨i, hi, rfl⟩ := List.mem_map.mp hx
        have hi2 := List.mem_range.mp (List.mem_filter.mp hi).1
        exact Nat.le_trans (nod_le r (i + 1) _) (Nat.pow_le_pow_left (by omega) r)
      have h2 : (((List.range (min c l)).filter fun i => decide (l ≤ (i + 1) * (r + 1))).map fun i => nod r (i + 1) (l - (i + 1))).length ≤ c := by
        rw [List.length_map]
        refine Nat.le_trans (List.length_filter_le _ _) ?_
        rw [List.length_range]
        exact Nat.min_le_left _ _
      have h3 := Nat.mul_le_mul_right ((c + 1) ^ r) h2
      rw [Nat.mul_comm ((c + 1) ^ r) c]
      omega
/-! ### the law's boxes -/
def hiL (b : List Nat) (m : Nat) : Nat := b.getLast?.getD m
def stp (m : Nat) (p : List Nat × Nat) : List (List Nat × Nat) := (List.range (min (hiL p.1 m) p.2 + 1)).map fun v => (p.1 ++ [v], p.2 - v)
def LF (m : Nat) : Nat → List (List Nat × Nat) → List (List Nat × Nat)
  | 0, L => L
  | k + 1, L => (LF m k L).flatMap (stp m)
theorem LF_S (m k : Nat) (L : List (List Nat × Nat)) : LF m (k + 1) L = (LF m k L).flatMap (stp m) := rfl
theorem LF_in (m : Nat) : ∀ (k : Nat) (L : List (List Nat × Nat)), LF m (k + 1) L = LF m k (L.flatMap (stp m))
  | 0, L => rfl
  | k + 1, L => by rw [LF_S, LF_in m k L, LF_S]
theorem LF_app (m : Nat) : ∀ (k : Nat) (A B : List (List Nat × Nat)), LF m k (A ++ B) = LF m k A ++ LF m k B
  | 0, A, B => rfl
  | k + 1, A, B => by rw [LF_S, LF_app m k, List.flatMap_append]; rfl
theorem LF_nil (m : Nat) : ∀ k : Nat, LF m k [] = []
  | 0 => rfl
  | k + 1 => by rw [LF_S, LF_nil m k]; rfl
theorem LF_map (m k : Nat) {α : Type} (f : α → List Nat × Nat) : ∀ L : List α, LF m k (L.map f) = L.flatMap fun x => LF m k [f x]
  | [] => LF_nil m k
  | x :: L => by
    rw [List.map_cons, List.flatMap_cons, ← LF_map m k f L, ← LF_app]
    rfl
def stripN (b : List Nat) : List Nat := b.filter fun x => decide (0 < x)
def tol (L : List (List Nat × Nat)) : List (List Nat) := (L.filter fun p => decide (p.2 = 0)).map fun p => stripN p.1
theorem tol_app (A B : List (List Nat × Nat)) : tol (A ++ B) = tol A ++ tol B := by
  unfold tol
  rw [List.filter_append, List.map_append]
theorem tol_flat {α : Type} (f : α → List (List Nat × Nat)) : ∀ L : List α, tol (L.flatMap f) = L.flatMap fun x => tol (f x)
  | [] => rfl
  | x :: L => by rw [List.flatMap_cons, tol_app, tol_flat f L, List.flatMap_cons]
theorem strip_app (a b : List Nat) : stripN (a ++ b) = stripN a ++ stripN b := List.filter_append ..
theorem rev_flat {α β : Type} (f : α → List β) : ∀ L : List α, (L.reverse.flatMap f).reverse = L.flatMap fun x => (f x).reverse
  | [] => rfl
  | x :: L => by
    rw [List.reverse_cons, List.flatMap_append, List.reverse_append, rev_flat f L, List.flatMap_singleton, List.flatMap_cons]
theorem tol_LF (m : Nat) : ∀ (r : Nat) (b : List Nat) (l : Nat), tol (LF m r [(b, l)]) = ((D r (hiL b m) l).reverse).map (stripN b ++ ·)
  | 0, b, l => by
    rw [D_0]
    show tol [(b, l)] = _
    by_cases c : l = 0
    · subst c
      rw [if_pos rfl]
      show [stripN b] = [stripN b ++ []]
      rw [List.append_nil]
    · rw [if_neg c]
      show ((([(b, l)] : List (List Nat × Nat)).filter fun p => decide (p.2 = 0)).map fun p => stripN p.1) = _
      rw [List.filter_cons_of_neg (by simpa using c)]
      rfl
  | r + 1, b, l => by
    rw [LF_in]
    have e1 : ([(b, l)] : List (List Nat × Nat)).flatMap (stp m) = (List.range (min (hiL b m) l + 1)).map fun v => (b ++ [v], l - v) := by
      rw [List.flatMap_singleton]
      rfl
    rw [e1, LF_map, tol_flat]
    have e2 : ∀ v, tol (LF m r [(b ++ [v], l - v)]) = ((D r v (l - v)).reverse).map (stripN b ++ stripN [v] ++ ·) := fun v => by
      rw [tol_LF m r, strip_app]
      have : hiL (b ++ [v]) m = v := by
        unfold hiL
        rw [List.getLast?_append]
        rfl
      rw [this]
    rw [flat_congr fun v _ => e2 v, List.range_succ_eq_map, List.flatMap_cons]
    by_cases c : l = 0
    · subst c
      rw [Nat.min_zero, D_l0, D_l0]
      show [stripN b ++ stripN [0] ++ []] ++ [] = [stripN b ++ []]
      rw [List.append_nil, List.append_nil]
      rfl
    · have l0 : 0 < l := by omega
      rw [Nat.sub_zero, D_c0 r l l0, D_S, if_neg c, rev_flat]
      show [] ++ _ = _
      rw [List.nil_append, List.flatMap_map, List.map_flatMap]
      refine flat_congr fun i hi => ?_
      by_cases c2 : l ≤ (i + 1) * (r + 1)
      · rw [if_pos c2, ← List.map_reverse, List.map_map]
        refine List.map_congr_left fun x _ => ?_
        show stripN b ++ [i + 1] ++ x = stripN b ++ (i + 1) :: x
        rw [List.append_assoc]
        rfl
      · rw [if_neg c2, D_nil r (i + 1) _ (by rw [Nat.mul_succ] at c2; show (i + 1) * r < l - (i + 1); omega)]
        rfl
/-- the law's list is the boxes, ascending -/
theorem law_boxes (p m w : Nat) : tol (LF m p [([], w)]) = (D p m w).reverse := by
  rw [tol_LF]
  show List.map (fun x => x) _ = _
  rw [List.map_id']
  rfl
theorem LF_len (m : Nat) : ∀ (k : Nat) (w : Nat), (LF m k [([], w)]).length ≤ (m + 1) ^ k ∧ ∀ p ∈ LF m k [([], w)], (∀ x ∈ p.1, x ≤ m) ∧ p.1.length = k ∧ p.2 ≤ w
  | 0, w => ⟨Nat.le_refl _, fun p hp => by
    rw [List.mem_singleton.mp hp]
    exact ⟨fun x hx => (nomatch hx), rfl, Nat.le_refl _⟩⟩
  | k + 1, w => by
    obtain ⟨h1, h2⟩ := LF_len m k w
    rw [LF_S]
    have hiM : ∀ p ∈ LF m k [([], w)], hiL p.1 m ≤ m := fun p hp => by
      unfold hiL
      cases q : p.1.getLast? with
      | none => exact Nat.le_refl _
      | some x => exact (h2 p hp).1 x (List.mem_of_getLast? q)
    refine ⟨?_, fun p hp => ?_⟩
    · rw [List.length_flatMap, Nat.pow_succ]
      refine Nat.le_trans (sum_le (B := m + 1) _ fun x hx => ?_) ?_
      · obtain ⟨p, hp, rfl⟩ := List.mem_map.mp hx
        have := hiM p hp
        unfold stp
        rw [List.length_map, List.length_range]
        omega
      · rw [List.length_map]
        exact Nat.mul_le_mul_right _ h1
    · obtain ⟨q, hq, hp⟩ := List.mem_flatMap.mp hp
      obtain ⟨v, hv, rfl⟩ := List.mem_map.mp hp
      have hv2 := List.mem_range.mp hv
      have := hiM q hq
      obtain ⟨a, b, c⟩ := h2 q hq
      refine ⟨fun x hx => ?_, by show (q.1 ++ [v]).length = _; rw [List.length_append, b]; rfl, by show q.2 - v ≤ w; omega⟩
      rcases List.mem_append.mp hx with e | e
      · exact a x e
      · rw [List.mem_singleton.mp e]
        omega
end K27

set_option Elab.async false
set_option linter.all false
set_option maxRecDepth 100000
/-! turned boxes, what is left of boxes, finite checks -/
namespace K27
structure Bx (b : List Nat) : Prop where
  len : b.length ≤ 40
  ent : ∀ x ∈ b, 1 ≤ x ∧ x ≤ 40
  srt : b.Pairwise (· ≥ ·)
def cnt (b : List Nat) (j : Nat) : Nat := (b.filter fun x => decide (j ≤ x)).length
def tn (b : List Nat) : List Nat := (List.range (b.headD 0)).map fun i => cnt b (i + 1)
theorem cnt_cons (x j : Nat) (b : List Nat) : cnt (x :: b) j = (if j ≤ x then 1 else 0) + cnt b j := by
  unfold cnt
  by_cases c : j ≤ x
  · rw [List.filter_cons_of_pos (by simpa using c), List.length_cons, if_pos c]
    omega
  · rw [List.filter_cons_of_neg (by simpa using c), if_neg c]
    omega
theorem cnt_zero {b : List Nat} {j : Nat} (h : ∀ x ∈ b, x < j) : cnt b j = 0 := by
  unfold cnt
  rw [List.filter_eq_nil_iff.mpr fun x hx => by have := h x hx; simp; omega]
  rfl
theorem cnt_at : ∀ {b : List Nat}, b.Pairwise (· ≥ ·) → ∀ (i j : Nat), 1 ≤ j → (i < cnt b j ↔ j ≤ b.getD i 0)
  | [], _, i, j, h => by
    show i < 0 ↔ j ≤ 0
    omega
  | x :: b, h, i, j, hj => by
    obtain ⟨h1, h2⟩ := List.pairwise_cons.mp h
    rw [cnt_cons]
    by_cases c : j ≤ x
    · rw [if_pos c]
      cases i with
      | zero => exact ⟨fun _ => c, fun _ => by omega⟩
      | succ i =>
        have := cnt_at h2 i j hj
        show i + 1 < 1 + cnt b j ↔ j ≤ b.getD i 0
        omega
    · rw [if_neg c, cnt_zero fun y hy => by have := h1 y hy; omega]
      refine ⟨fun z => absurd z (by omega), fun z => ?_⟩
      cases i with
      | zero => exact absurd z c
      | succ i =>
        have z' : j ≤ b.getD i 0 := z
        by_cases hi : i < b.length
        · rw [List.getD_eq_getElem?_getD, List.getElem?_eq_getElem hi] at z'
          have := h1 _ (List.getElem_mem hi)
          exact absurd z' (by show ¬ j ≤ b[i]; omega)
        · rw [List.getD_eq_getElem?_getD, List.getElem?_eq_none (by omega)] at z'
          exact absurd z' (by show ¬ j ≤ 0; omega)
theorem cnt_le (b : List Nat) (j : Nat) : cnt b j ≤ b.length := List.length_filter_le _ _
theorem cnt_mono : ∀ (b : List Nat) {j k : Nat}, j ≤ k → cnt b k ≤ cnt b j
  | [], _, _, _ => Nat.le_refl _
  | x :: b, j, k, h => by
    have := cnt_mono b h
    rw [cnt_cons, cnt_cons]
    split <;> split <;> omega
theorem cnt_all : ∀ {b : List Nat}, (∀ x ∈ b, 1 ≤ x) → cnt b 1 = b.length
  | [], _ => rfl
  | x :: b, h => by
    have := cnt_all fun y hy => h y (.tail _ hy)
    rw [cnt_cons, if_pos (h x (.head _)), this, List.length_cons]
    omega
theorem below (k : Nat) : ∀ n : Nat, ((List.range n).filter fun j => decide (j < k)).length = min n k
  | 0 => by rw [Nat.zero_min]; rfl
  | n + 1 => by
    rw [List.range_succ, List.filter_append, List.length_append, below k n]
    by_cases c : n < k
    · rw [List.filter_cons_of_pos (by simpa using c)]
      show min n k + 1 = _
      omega
    · rw [List.filter_cons_of_neg (by simpa using c)]
      show min n k + 0 = _
      omega
theorem tn_len (b : List Nat) : (tn b).length = b.headD 0 := by
  unfold tn
  rw [List.length_map, List.length_range]
theorem tn_get (b : List Nat) (i : Nat) (h : i < (tn b).length) : (tn b)[i] = cnt b (i + 1) := by
  simp [tn]
theorem tn_bx {b : List Nat} (h : Bx b) : Bx (tn b) := by
  refine ⟨?_, fun y hy => ?_, ?_⟩
  · rw [tn_len]
    cases b with
    | nil => exact Nat.zero_le _
    | cons x r => exact (h.ent x (.head _)).2
  · unfold tn at hy
    obtain ⟨i, hi, rfl⟩ := List.mem_map.mp hy
    have hi2 := List.mem_range.mp hi
    refine ⟨(cnt_at h.srt 0 (i + 1) (by omega)).mpr ?_, Nat.le_trans (cnt_le _ _) h.len⟩
    cases b with
    | nil => exact absurd hi2 (Nat.not_lt_zero _)
    | cons x r => exact hi2
  · unfold tn
    refine List.pairwise_map.mpr ?_
    exact List.Pairwise.imp (fun {a c} z => cnt_mono b (by omega)) List.pairwise_lt_range
theorem tn_tn {b : List Nat} (h : Bx b) : tn (tn b) = b := by
  cases b with
  | nil => rfl
  | cons x r =>
    have x1 := (h.ent x (.head _)).1
    have e : (tn (x :: r)).headD 0 = (x :: r).length := by
      unfold tn
      show ((List.range x).map fun i => cnt (x :: r) (i + 1)).headD 0 = _
      obtain ⟨x', rfl⟩ : ∃ x', x = x' + 1 := ⟨x - 1, by omega⟩
      rw [List.range_succ_eq_map]
      exact cnt_all fun y hy => (h.ent y hy).1
    refine List.ext_getElem (by rw [tn_len, e]) fun i h1 h2 => ?_
    rw [tn_get]
    have hb : (x :: r)[i] ≤ x := by
      cases i with
      | zero => exact Nat.le_refl _
      | succ i => exact (List.pairwise_cons.mp h.srt).1 _ (List.getElem_mem _)
    unfold cnt tn
    rw [List.filter_map, List.length_map]
    show ((List.range x).filter fun j => decide (i + 1 ≤ cnt (x :: r) (j + 1))).length = _
    have e2 : ((List.range x).filter fun j => decide (i + 1 ≤ cnt (x :: r) (j + 1))) = (List.range x).filter fun j => decide (j < (x :: r)[i]) := by
      refine List.filter_congr fun j _ => ?_
      have := cnt_at h.srt i (j + 1) (by omega)
      rw [List.getD_eq_getElem?_getD, List.getElem?_eq_getElem h2] at this
      refine decide_eq_decide.mpr ⟨fun z => ?_, fun z => ?_⟩
      · have := this.mp z
        exact this
      · exact this.mpr z
    rw [e2, below]
    omega
theorem sum_map_add {α : Type} (f g : α → Nat) : ∀ l : List α, (l.map fun x => f x + g x).sum = (l.map f).sum + (l.map g).sum
  | [] => rfl
  | x :: l => by
    rw [List.map_cons, List.sum_cons, sum_map_add f g l, List.map_cons, List.sum_cons, List.map_cons, List.sum_cons]
    omega
theorem ind_sum (y : Nat) : ∀ n : Nat, ((List.range n).map fun j => if j + 1 ≤ y then 1 else 0).sum = min n y
  | 0 => by rw [Nat.zero_min]; rfl
  | n + 1 => by
    rw [List.range_succ, List.map_append, List.sum_append, ind_sum y n]
    show min n y + ((if n + 1 ≤ y then 1 else 0) + 0) = _
    split <;> omega
theorem cnt_sum (n : Nat) : ∀ b : List Nat, ((List.range n).map fun j => cnt b (j + 1)).sum = (b.map fun y => min n y).sum
  | [] => by
    show ((List.range n).map fun j => 0).sum = 0
    induction n with
    | zero => rfl
    | succ n ih => rw [List.range_succ, List.map_append, List.sum_append, ih]; rfl
  | y :: b => by
    rw [show ((List.range n).map fun j => cnt (y :: b) (j + 1)) = (List.range n).map fun j => (if j + 1 ≤ y then 1 else 0) + cnt b (j + 1) from List.map_congr_left fun j _ => cnt_cons ..]
    rw [sum_map_add, ind_sum, cnt_sum n b, List.map_cons, List.sum_cons]
theorem tn_sum {b : List Nat} (h : Bx b) : (tn b).sum = b.sum := by
  unfold tn
  rw [cnt_sum]
  congr 1
  refine (List.map_congr_left fun y hy => ?_).trans (List.map_id b)
  show min (b.headD 0) y = y
  cases b with
  | nil => cases hy
  | cons x r =>
    have : y ≤ x := by
      rcases List.mem_cons.mp hy with e | e
      · omega
      · exact (List.pairwise_cons.mp h.srt).1 y e
    show min x y = y
    omega
theorem head_max {b : List Nat} (h : Bx b) : ∀ y ∈ b, y ≤ b.headD 0 := by
  cases b with
  | nil => intro y hy; cases hy
  | cons x r =>
    intro y hy
    rcases List.mem_cons.mp hy with e | e
    · show y ≤ x
      omega
    · exact (List.pairwise_cons.mp h.srt).1 y e
/-! ### what is left -/
def lfW (M : Nat) (W : List Nat) : List Nat := (W.reverse.filter fun x => decide (x < M)).map fun x => M - x
def wd (b : List Nat) (P : Nat) : List Nat := b ++ List.replicate (P - b.length) 0
def lf (b : List Nat) (P M : Nat) : List Nat := lfW M (wd b P)
theorem top_split (M : Nat) : ∀ {W : List Nat}, W.Pairwise (· ≥ ·) → (∀ x ∈ W, x ≤ M) → ∃ k W', W = List.replicate k M ++ W' ∧ ∀ x ∈ W', x < M
  | [], _, _ => ⟨0, [], rfl, fun x hx => (nomatch hx)⟩
  | x :: W, h, hM => by
    obtain ⟨h1, h2⟩ := List.pairwise_cons.mp h
    by_cases c : x = M
    · obtain ⟨k, W', e, hW⟩ := top_split M h2 fun y hy => hM y (.tail _ hy)
      exact ⟨k + 1, W', by rw [e, c]; rfl, hW⟩
    · have xm := hM x (.head _)
      refine ⟨0, x :: W, rfl, fun y hy => ?_⟩
      rcases List.mem_cons.mp hy with e | e
      · omega
      · have := h1 y e
        omega
theorem lfW_lfW {M : Nat} {W : List Nat} (h : W.Pairwise (· ≥ ·)) (hM : ∀ x ∈ W, x ≤ M) : lfW M (lfW M W ++ List.replicate (W.length - (lfW M W).length) 0) = W.filter fun x => decide (0 < x) := by
  obtain ⟨k, W', rfl, hW⟩ := top_split M h hM
  have e1 : lfW M (List.replicate k M ++ W') = (W'.map fun x => M - x).reverse := by
    unfold lfW
    rw [List.reverse_append, List.filter_append, List.filter_eq_self.mpr fun x hx => by have := hW x (List.mem_reverse.mp hx); simpa using this]
    rw [List.filter_eq_nil_iff.mpr fun x hx => by have := List.eq_of_mem_replicate (List.mem_reverse.mp hx); simp [this], List.append_nil, List.map_reverse]
  rw [e1, List.length_reverse, List.length_map, List.length_append, List.length_replicate, Nat.add_sub_cancel]
  unfold lfW
  rw [List.reverse_append, List.reverse_reverse, List.reverse_replicate, List.filter_append, List.map_append, List.filter_append]
  congr 1
  · by_cases c : 0 < M
    · rw [List.filter_eq_self.mpr fun x hx => by rw [List.eq_of_mem_replicate hx]; simpa using c, List.map_replicate, List.filter_eq_self.mpr fun x hx => by rw [List.eq_of_mem_replicate hx]; simpa using c]
      rfl
    · rw [List.filter_eq_nil_iff.mpr fun x hx => by rw [List.eq_of_mem_replicate hx]; simpa using c, List.filter_eq_nil_iff.mpr fun x hx => by rw [List.eq_of_mem_replicate hx]; simpa using c]
      rfl
  · rw [List.filter_map, List.map_map]
    have e3 : W'.filter ((fun x => decide (x < M)) ∘ fun x => M - x) = W'.filter fun x => decide (0 < x) := List.filter_congr fun x hx => by
      have := hW x hx
      show decide (M - x < M) = decide (0 < x)
      exact decide_eq_decide.mpr ⟨fun z => by omega, fun z => by omega⟩
    rw [e3]
    refine (List.map_congr_left fun x hx => ?_).trans (List.map_id _)
    have := hW x (List.mem_filter.mp hx).1
    show M - (M - x) = x
    omega
theorem wd_len {b : List Nat} {P : Nat} (h : b.length ≤ P) : (wd b P).length = P := by
  unfold wd
  rw [List.length_append, List.length_replicate]
  omega
theorem wd_srt {b : List Nat} (P : Nat) (h : Bx b) : (wd b P).Pairwise (· ≥ ·) := by
  unfold wd
  refine List.pairwise_append.mpr ⟨h.srt, List.pairwise_replicate.mpr (.inr (Nat.le_refl _)), fun x _ y hy => ?_⟩
  rw [List.eq_of_mem_replicate hy]
  exact Nat.zero_le _
theorem wd_le {b : List Nat} {P M : Nat} (h : ∀ x ∈ b, x ≤ M) : ∀ x ∈ wd b P, x ≤ M := fun x hx => by
  rcases List.mem_append.mp hx with e | e
  · exact h x e
  · rw [List.eq_of_mem_replicate e]
    exact Nat.zero_le _
theorem lf_len {b : List Nat} {P M : Nat} (hP : b.length ≤ P) : (lf b P M).length ≤ P := by
  unfold lf lfW
  rw [List.length_map]
  refine Nat.le_trans (List.length_filter_le _ _) ?_
  rw [List.length_reverse, wd_len hP]
  exact Nat.le_refl _
theorem lf_ent {b : List Nat} {P M : Nat} : ∀ x ∈ lf b P M, 1 ≤ x ∧ x ≤ M := fun x hx => by
  obtain ⟨y, hy, rfl⟩ := List.mem_map.mp hx
  have := (List.mem_filter.mp hy).2
  have := of_decide_eq_true this
  omega
theorem lf_bx {b : List Nat} {P M : Nat} (h : Bx b) (hP : b.length ≤ P) (P40 : P ≤ 40) (M40 : M ≤ 40) : Bx (lf b P M) := by
  refine ⟨Nat.le_trans (lf_len hP) P40, fun x hx => ?_, ?_⟩
  · have := lf_ent x hx
    omega
  · unfold lf lfW
    refine List.pairwise_map.mpr ?_
    refine List.Pairwise.imp (fun {a c} z => ?_) ((List.pairwise_reverse.mpr (List.Pairwise.imp (fun {a c} z => z) (wd_srt P h))).filter _)
    exact (Nat.sub_le_sub_left z M)
theorem lf_lf {b : List Nat} {P M : Nat} (h : Bx b) (hP : b.length ≤ P) (hM : ∀ x ∈ b, x ≤ M) : lf (lf b P M) P M = b := by
  have := lfW_lfW (wd_srt P h) (wd_le (P := P) hM)
  rw [wd_len hP] at this
  show lfW M (wd (lf b P M) P) = b
  refine Eq.trans (show lfW M (wd (lf b P M) P) = _ from this) ?_
  unfold wd
  rw [List.filter_append, List.filter_eq_self.mpr fun x hx => by have := (h.ent x hx).1; exact decide_eq_true (by omega), List.filter_eq_nil_iff.mpr fun x hx => by rw [List.eq_of_mem_replicate hx]; simp, List.append_nil]
theorem sum_left (M : Nat) : ∀ W : List Nat, (∀ x ∈ W, x ≤ M) → ((W.filter fun x => decide (x < M)).map fun x => M - x).sum + W.sum = W.length * M
  | [], _ => by
    show 0 + 0 = 0 * M
    rw [Nat.zero_mul]
  | x :: W, h => by
    have ih := sum_left M W fun y hy => h y (.tail _ hy)
    have hx := h x (.head _)
    rw [List.length_cons, Nat.succ_mul, ← ih, List.sum_cons]
    by_cases c : x < M
    · rw [List.filter_cons_of_pos (by simpa using c), List.map_cons, List.sum_cons]
      omega
    · rw [List.filter_cons_of_neg (by simpa using c)]
      omega
theorem sum_rep (n : Nat) : (List.replicate n 0).sum = 0 := by
  induction n with
  | zero => rfl
  | succ n ih => rw [List.replicate_succ, List.sum_cons, ih]
theorem lf_sum {b : List Nat} {P M : Nat} (hP : b.length ≤ P) (hM : ∀ x ∈ b, x ≤ M) : (lf b P M).sum + b.sum = P * M := by
  have := sum_left M (wd b P).reverse fun x hx => wd_le (P := P) hM x (List.mem_reverse.mp hx)
  rw [List.length_reverse, wd_len hP, List.sum_reverse] at this
  have e : (wd b P).sum = b.sum := by
    unfold wd
    rw [List.sum_append, sum_rep, Nat.add_zero]
  rw [e] at this
  exact this
/-! ### finite checks -/
def nlt : List Nat → List Nat → Bool
  | [], [] => false
  | [], _ :: _ => true
  | _ :: _, [] => false
  | x :: xs, y :: ys => if x = y then nlt xs ys else decide (x < y)
theorem nlt_int : ∀ a b : List Nat, HT.lexLt (a.map Int.ofNat) (b.map Int.ofNat) = nlt a b
  | [], [] => rfl
  | [], _ :: _ => rfl
  | _ :: _, [] => rfl
  | x :: xs, y :: ys => by
    rw [List.map_cons, List.map_cons, HT.lexLt_cons, nlt_int xs ys]
    show _ = if x = y then nlt xs ys else decide (x < y)
    by_cases c : x = y
    · rw [if_pos c, if_pos (congrArg Int.ofNat c)]
    · rw [if_neg c, if_neg (fun z => c (Int.ofNat.inj z))]
      exact decide_eq_decide.mpr ⟨fun z => by have : (x : Int) < (y : Int) := z; omega, fun z => by show (x : Int) < (y : Int); omega⟩
def dsc : List (List Nat) → Bool
  | [] => true
  | x :: r => (r.all fun y => nlt y x) && dsc r
def isBx (b : List Nat) : Bool := decide (b.length ≤ 40) && b.all (fun x => decide (1 ≤ x) && decide (x ≤ 40)) && dscN b
where dscN : List Nat → Bool
  | [] => true
  | x :: r => (r.all fun y => decide (y ≤ x)) && dscN r
def rowGN (f : Nat → Nat → Nat) (p : Nat) : Nat → Nat → Nat
  | 0, k => if k = 0 then 1 else 0
  | m + 1, k => f (m + 1) k + if p + 1 ≤ k then rowGN f p m (k - (p + 1)) else 0
def GN : Nat → Nat → Nat → Nat
  | 0 => fun _ k => if k = 0 then 1 else 0
  | p + 1 => rowGN (GN p) p
theorem GN_eq : ∀ (p m k : Nat), ((GN p m k : Nat) : Int) = G p m k
  | 0, m, k => by
    rw [G_0]
    show (((if k = 0 then 1 else 0 : Nat)) : Int) = _
    by_cases c : k = 0
    · rw [if_pos c, if_pos (by omega)]
      rfl
    · rw [if_neg c, if_neg (by omega)]
      rfl
  | p + 1, m, k => by
    have main : ∀ m k : Nat, ((rowGN (GN p) p m k : Nat) : Int) = G (p + 1) m k := by
      intro m
      induction m with
      | zero =>
        intro k
        rw [G_p0]
        show (((if k = 0 then 1 else 0 : Nat)) : Int) = _
        by_cases c : k = 0
        · rw [if_pos c, if_pos (by omega)]
          rfl
        · rw [if_neg c, if_neg (by omega)]
          rfl
      | succ m ih =>
        intro k
        rw [G_A]
        show ((GN p (m + 1) k + (if p + 1 ≤ k then rowGN (GN p) p m (k - (p + 1)) else 0) : Nat) : Int) = _
        rw [Int.natCast_add, GN_eq p (m + 1) k]
        by_cases c : p + 1 ≤ k
        · rw [if_pos c, ih, show ((k - (p + 1) : Nat) : Int) = (k : Int) - ((p + 1 : Nat) : Int) by omega]
        · rw [if_neg c, G_neg (p + 1) m _ (by omega)]
          rfl
    exact main m k
def ck (p m w : Nat) : Bool := decide ((D p m w).length < 64) && dsc (D p m w) && decide ((D p m w).length = GN p m w) && ((D p m w).map tn).isPerm (D m p w) && ((D p m w).all isBx) && (decide ((D p m w).length < 2) || (D p m w).all fun b => !b.isEmpty)
theorem ck_all : ((List.range 7).all fun p => (List.range 7).all fun m => (List.range (p * m + 2)).all fun w => ck p m w) = true := by decide +kernel
end K27

set_option Elab.async false
set_option linter.all false
set_option maxRecDepth 100000
set_option maxHeartbeats 4000000
namespace K27
open PySem PySem.Spec PyProof.Rows L2
section
variable {P : Program} {w : World} {K : PySem.W.Frag} {mg : Str → Option Value} {base : Heap}
def spWhole : Sp := fun vs H Q _ => ∃ n : Int, vs = [.int n] ∧ Q (.bl true) H
theorem ok_is_whole (T : Facts K mg) : FnOk P w K mg base CX0 1 T.f_is_whole T.fd_is_whole ["value"] spWhole := by
  refine T.F_is_whole.ok sc_is_whole (fun vs H Q E h => ?_) (fun cdv A outer s H vs Q E hr h => ?_)
  · obtain ⟨n, rfl, _⟩ := h
    rfl
  · obtain ⟨n, rfl, q⟩ := h
    refine ⟨_, (PSs.nox (pss_one (ps_ret (pe_and (pe_callB call_isi (by rfl) T.z_isinstance (by decide +kernel) (pa_cons (pv 0) (pa_cons (pe_bltn (v := .ty "int") (by rfl) T.z_int (by decide +kernel) rfl) pa_nil))) (pe_one (pe_not (pe_callB call_isi (by rfl) T.z_isinstance (by decide +kernel) (pa_cons (pv 0) (pa_cons (pe_bltn (v := .ty "bool") (by rfl) T.z_bool (by decide +kernel) rfl) pa_nil))))))))), ?_⟩
    refine ⟨.int n, rfl, .int n, .ty "int", .type "int", .type "int", true, rfl, .ty "int", .base (.int n), kit_ty (by decide +kernel), true, rfl, iteT ?_⟩
    exact ⟨.int n, rfl, .int n, .ty "bool", .type "int", .type "bool", false, rfl, .ty "bool", .base (.int n), kit_ty (by decide +kernel), false, rfl, q⟩
def spFrom : Sp := fun vs H Q _ => ∃ n l m : Int, vs = [.int n, .int l, .int m] ∧ l ≤ n ∧ n ≤ m ∧ Q (.bl true) H
theorem ok_is_from (T : Facts K mg) : FnOk P w K mg base CX0 2 T.f_is_from T.fd_is_from ["value", "least", "most"] spFrom := by
  have G_is_whole : FnOk P w K mg base CX0 1 T.f_is_whole T.fd_is_whole ["value"] spWhole := ok_is_whole T
  refine T.F_is_from.ok sc_is_from (fun vs H Q E h => ?_) (fun cdv A outer s H vs Q E hr h => ?_)
  · obtain ⟨n, l, m, rfl, _⟩ := h
    rfl
  · obtain ⟨n, l, m, rfl, h1, h2, q⟩ := h
    refine ⟨_, (PSs.nox (pss_one (ps_ret (pe_and (pe_call G_is_whole hr (by rfl) T.g_is_whole T.F_is_whole.kp T.b_is_whole .nil pass0 (pa_cons (pv 0) pa_nil)) (pe_one (pe_chain op_le op_le (pv 1) (pv 0) (pv 2))))))), ?_⟩
    refine ⟨.int n, rfl, n, rfl, true, rfl, iteT ?_⟩
    refine ⟨.int l, rfl, .int n, rfl, l, n, rfl, rfl, decide (l ≤ n), rfl, ?_⟩
    rw [decide_eq_true h1]
    refine iteT ⟨.int m, rfl, n, m, rfl, rfl, ?_⟩
    show Q (.bl (decide (n ≤ m))) H
    rw [decide_eq_true h2]
    exact q
def spReq (top : Int) : Sp := fun vs H Q _ => ∃ n : Int, vs = [.int n] ∧ 0 ≤ n ∧ n ≤ top ∧ Q .non H
theorem ok_require_part (T : Facts K mg) : FnOk P w K mg base CX0 3 T.f_require_part T.fd_require_part ["value"] (spReq 40) := by
  have G_is_from : FnOk P w K mg base CX0 2 T.f_is_from T.fd_is_from ["value", "least", "most"] spFrom := ok_is_from T
  refine T.F_require_part.ok sc_require_part (fun vs H Q E h => ?_) (fun cdv A outer s H vs Q E hr h => ?_)
  · obtain ⟨n, rfl, _⟩ := h
    rfl
  · obtain ⟨n, rfl, h1, h2, q⟩ := h
    refine ⟨_, (PSs.nox (pss_one (ps_if (pt_not (pt_val (pe_call G_is_from hr (by rfl) T.g_is_from T.F_is_from.kp T.b_is_from .nil pass0 (pa_cons (pv 0) (pa_cons pe_int (pa_cons (pe_glob (v := .int 40) (by rfl) T.c_MAX_PARTS.choose_spec ⟨_, rfl⟩) pa_nil))))))
      (pss_one ps_never)
      pss_nil))), ?_⟩
    exact ⟨.int n, rfl, n, 0, 40, rfl, h1, h2, true, rfl, iteF q⟩
theorem ok_require_weight (T : Facts K mg) : FnOk P w K mg base CX0 3 T.f_require_weight T.fd_require_weight ["value"] (spReq 1600) := by
  have G_is_from : FnOk P w K mg base CX0 2 T.f_is_from T.fd_is_from ["value", "least", "most"] spFrom := ok_is_from T
  refine T.F_require_weight.ok sc_require_weight (fun vs H Q E h => ?_) (fun cdv A outer s H vs Q E hr h => ?_)
  · obtain ⟨n, rfl, _⟩ := h
    rfl
  · obtain ⟨n, rfl, h1, h2, q⟩ := h
    refine ⟨_, (PSs.nox (pss_one (ps_if (pt_not (pt_val (pe_call G_is_from hr (by rfl) T.g_is_from T.F_is_from.kp T.b_is_from .nil pass0 (pa_cons (pv 0) (pa_cons pe_int (pa_cons (pe_glob (v := .int 1600) (by rfl) T.c_MAX_WEIGHT.choose_spec ⟨_, rfl⟩) pa_nil))))))
      (pss_one ps_never)
      pss_nil))), ?_⟩
    exact ⟨.int n, rfl, n, 0, 1600, rfl, h1, h2, true, rfl, iteF q⟩
def spCount (K : PySem.W.Frag) : Sp := fun vs H Q _ => ∃ (n : Int) (a : Addr) (xs : List Int), vs = [.int n, .ref a] ∧ SqL K H a (xs.map V.int) ∧ Q (.int (if 0 ≤ n ∧ n < xs.length then xs.getD n.toNat 0 else 0)) H
theorem ok_count_in (T : Facts K mg) : FnOk P w K mg base CX0 1 T.f_count_in T.fd_count_in ["weight", "row"] (spCount K) := by
  refine T.F_count_in.ok sc_count_in (fun vs H Q E h => ?_) (fun cdv A outer s H vs Q E hr h => ?_)
  · obtain ⟨n, a, xs, rfl, _⟩ := h
    rfl
  · obtain ⟨n, a, xs, rfl, hS, q⟩ := h
    refine ⟨_, (PSs.nox (pss_one (ps_ret (pe_ifExp (pt_chain op_le op_lt pe_int (pv 0) (pe_callB call_len_seq (by rfl) T.z_len (by decide +kernel) (pa_cons (pv 1) pa_nil))) (pe_ix ix_list (pv 1) (pv 0) (fun _ _ => rfl)) pe_int)))), ?_⟩
    refine ⟨.int n, rfl, 0, n, rfl, rfl, decide (0 ≤ n), rfl, ?_⟩
    by_cases h0 : 0 ≤ n
    · rw [decide_eq_true h0]
      refine iteT ⟨.ref a, rfl, a, xs.map V.int, rfl, .inl hS, n, ((xs.map V.int).length : Int), rfl, rfl, _, rfl, ?_⟩
      rw [List.length_map]
      by_cases h1 : n < (xs.length : Int)
      · rw [decide_eq_true h1]
        obtain ⟨j, rfl⟩ := Int.eq_ofNat_of_zero_le h0
        have hj : j < xs.length := by omega
        refine iteT ⟨.ref a, rfl, .int j, rfl, a, xs.map V.int, j, .int xs[j], rfl, rfl, hS, atI_nat (by rw [List.getElem?_map, List.getElem?_eq_getElem hj]; rfl), ?_⟩
        rw [if_pos ⟨h0, h1⟩] at q
        rw [show ((j : Int)).toNat = j from rfl, List.getD_eq_getElem?_getD, List.getElem?_eq_getElem hj] at q
        exact q
      · rw [decide_eq_false h1]
        rw [if_neg (fun z => h1 z.2)] at q
        exact iteF q
    · rw [decide_eq_false h0]
      rw [if_neg (fun z => h0 z.1)] at q
      refine iteF ⟨false, rfl, iteF q⟩
end
end K27

set_option Elab.async false
set_option linter.all false
set_option maxRecDepth 100000
set_option maxHeartbeats 4000000
namespace K27
open PySem PySem.Spec PyProof.Rows L2
section
variable {P : Program} {w : World} {K : PySem.W.Frag} {mg : Str → Option Value} {base : Heap}
theorem cp16 : CPow 10 16 := ⟨by decide, by decide, by decide⟩
theorem cp60 : CPow 10 60 := ⟨by decide, by decide, by decide⟩
theorem cw60 : CMulW (10 ^ Int.toNat 60) (10 ^ Int.toNat 60) := by
  unfold CMulW
  decide +kernel
theorem pos60 : (0 : Int) < 10 ^ Int.toNat 60 * 10 ^ Int.toNat 60 := by decide +kernel
theorem pos_m : (0 : Int) < 1152921504606846697 := by decide
theorem sz3 : 3 ≤ sizeLine := by decide
/-- the dice's three ints -/
abbrev dice (x y z : Int) : HO := .lst [.int x, .int y, .int z]
def spDice (K : PySem.W.Frag) : Sp := fun vs H Q _ => ∃ (a : Addr) (ns : List Int) (k : Nat), vs = [.ref a, .int k] ∧ SqL K H a (ns.map V.int) ∧ ∀ p x y z, H p = none → Q (.ref p) (upd H p (dice x y z))
theorem ok_law_dice (T : Facts K mg) : FnOk P w K mg base CX0 1 T.f_law_dice T.fd_law_dice ["_law_script", "_law_spot"] (spDice K) := by
  refine T.F_law_dice.ok sc_law_dice (fun vs H Q E h => ?_) (fun cdv A outer s H vs Q E hr h => ?_)
  · obtain ⟨a, ns, k, rfl, _⟩ := h
    rfl
  · obtain ⟨a, ns, k, rfl, hS, q⟩ := h
    refine ⟨_, (PSs.nox (pss_cons (ps_set (i := 2) sc_law_dice.nd rfl (.inl rfl) (pe_ifExp (pt_cmpR op_lt (pv 1) (pe_callB call_len_seq (by rfl) T.z_len (by decide +kernel) (pa_cons (pv 0) pa_nil)) (nomark _)) (pe_callTy call_int1 (by rfl) T.z_int (by decide +kernel) (pa_cons (pe_ix ix_list (pv 0) (pv 1) (fun _ _ => rfl)) pa_nil)) (pe_op op_add (pe_op op_mul pe_int (pv 1)) pe_int)))
    (pss_cons (ps_set (i := 3) sc_law_dice.nd rfl (.inl rfl) (pe_op op_mod (pe_callB (call_max2 (by rfl)) (by rfl) T.z_max (by decide +kernel) (pa_cons pe_int (pa_cons (pe_op op_sub (pe_callB call_abs (by rfl) T.z_abs (by decide +kernel) (pa_cons (pv 2) pa_nil)) (pe_op op_pow pe_int pe_int)) pa_nil))) (pe_op op_mulW (pe_op op_pow pe_int pe_int) (pe_op op_pow pe_int pe_int))))
    (pss_one (ps_ret (pe_lst (pa_cons (pv 3) (pa_cons (pe_op op_add (pe_op op_add (pe_op op_add (pe_op op_mul (pe_op op_mod (pe_callB call_abs (by rfl) T.z_abs (by decide +kernel) (pa_cons (pv 2) pa_nil)) pe_int) pe_int) (pe_op op_mul pe_int (pv 1))) (pe_op op_mul pe_int (pe_callTy call_int1 (by rfl) T.z_int (by decide +kernel) (pa_cons (pe_cmpR op_lt (pv 2) pe_int (nomark _)) pa_nil)))) pe_int) (pa_cons pe_int pa_nil))))))))), ?_⟩
    refine ⟨.int k, rfl, .ref a, rfl, a, ns.map V.int, rfl, .inl hS, k, _, rfl, rfl, _, rfl, ?_⟩
    rw [List.length_map]
    by_cases h1 : (k : Int) < (ns.length : Int)
    · rw [decide_eq_true h1]
      have hj : k < ns.length := by omega
      refine iteT ⟨.ref a, rfl, .int k, rfl, a, ns.map V.int, k, .int ns[k], rfl, rfl, hS, atI_nat (by rw [List.getElem?_map, List.getElem?_eq_getElem hj]; rfl), .inl ⟨_, rfl, ?_⟩⟩
      refine ⟨.int ns[k], rfl, _, rfl, 10, 16, rfl, rfl, cp16, _, _, rfl, rfl, 0, _, rfl, 10, 60, rfl, rfl, cp60, 10, 60, rfl, rfl, cp60, _, _, rfl, rfl, cw60, _, _, rfl, rfl, pos60, ?_⟩
      refine ⟨_, rfl, .int ns[k], rfl, _, rfl, _, _, rfl, rfl, pos_m, _, _, rfl, rfl, .inr ⟨by decide, by decide⟩, .int k, rfl, _, _, rfl, rfl, .inl ⟨by decide, by decide⟩, _, _, rfl, rfl, .int ns[k], rfl, _, _, rfl, rfl, .inr ⟨_, rfl, _, _, rfl, rfl, .inl ⟨by decide, by decide⟩, _, _, rfl, rfl, _, _, rfl, rfl, ?_⟩⟩
      exact ⟨sz3, fun p hp => q p _ _ _ hp⟩
    · rw [decide_eq_false h1]
      refine iteF ⟨.int k, rfl, _, _, rfl, rfl, .inl ⟨by decide, by decide⟩, _, _, rfl, rfl, ?_⟩
      refine ⟨_, rfl, _, rfl, 10, 16, rfl, rfl, cp16, _, _, rfl, rfl, 0, _, rfl, 10, 60, rfl, rfl, cp60, 10, 60, rfl, rfl, cp60, _, _, rfl, rfl, cw60, _, _, rfl, rfl, pos60, ?_⟩
      refine ⟨_, rfl, _, rfl, _, rfl, _, _, rfl, rfl, pos_m, _, _, rfl, rfl, .inr ⟨by decide, by decide⟩, .int k, rfl, _, _, rfl, rfl, .inl ⟨by decide, by decide⟩, _, _, rfl, rfl, _, rfl, _, _, rfl, rfl, .inr ⟨_, rfl, _, _, rfl, rfl, .inl ⟨by decide, by decide⟩, _, _, rfl, rfl, _, _, rfl, rfl, ?_⟩⟩
      exact ⟨sz3, fun p hp => q p _ _ _ hp⟩
def spRoll : Sp := fun vs H Q _ => ∃ (a : Addr) (x y z n : Int), vs = [.ref a, .int n] ∧ H a = some (dice x y z) ∧ 0 < n ∧ n < 1073741824 ∧ ∀ r x' z', 0 ≤ r → r < n → Q (.int r) (upd H a (dice x' y z'))
theorem ok_law_roll (T : Facts K mg) : FnOk P w K mg base CX0 1 T.f_law_roll T.fd_law_roll ["_law_dice_here", "_law_total"] spRoll := by
  refine T.F_law_roll.ok sc_law_roll (fun vs H Q E h => ?_) (fun cdv A outer s H vs Q E hr h => ?_)
  · obtain ⟨a, x, y, z, n, rfl, _⟩ := h
    rfl
  · obtain ⟨a, x, y, z, n, rfl, hd, h0, h1, q⟩ := h
    have hS : SqL K H a [.int x, .int y, .int z] := SqL.of hd
    refine ⟨_, (PSs.nox (pss_cons (ps_if (pt_cmpR op_gt (pe_ix ix_list (pv 0) pe_int (fun _ _ => rfl)) pe_int (nomark _))
      (pss_cons (ps_set (i := 2) sc_law_roll.nd rfl (.inl rfl) (pe_op op_mod (pe_callTy call_int1 (by rfl) T.z_int (by decide +kernel) (pa_cons (pe_ix ix_list (pv 0) pe_int (fun _ _ => rfl)) pa_nil)) (pv 1)))
      (pss_cons (ps_asg (pe_op op_fdiv (pe_ix ix_list (pv 0) pe_int (fun _ _ => rfl)) (pv 1)) (pg_sub (pv 0) pe_int set_list))
      (pss_one (ps_ret (pv 2)))))
      pss_nil)
    (pss_cons (ps_asg (pe_op op_add (pe_ix ix_list (pv 0) pe_int (fun _ _ => rfl)) pe_int) (pg_sub (pv 0) pe_int set_list))
    (pss_cons (ps_set (i := 3) sc_law_roll.nd rfl (.inl rfl) (pe_op op_mod (pe_callTy call_int1 (by rfl) T.z_int (by decide +kernel) (pa_cons (pe_op op_add (pe_ix ix_list (pv 0) pe_int (fun _ _ => rfl)) (pe_op op_mul pe_int (pe_ix ix_list (pv 0) pe_int (fun _ _ => rfl)))) pa_nil)) pe_int))
    (pss_cons (ps_set (i := 4) sc_law_roll.nd rfl (.inl rfl) (pe_op op_add (pe_op op_mul (pe_op op_mod (pe_callTy call_int1 (by rfl) T.z_int (by decide +kernel) (pa_cons (pe_op op_add (pe_op op_mul (pv 3) (pv 3)) (pe_op op_mul pe_int (pe_ix ix_list (pv 0) pe_int (fun _ _ => rfl)))) pa_nil)) pe_int) pe_int) (pv 3)))
    (pss_one (ps_ret (pe_op op_mod (pe_callTy call_int1 (by rfl) T.z_int (by decide +kernel) (pa_cons (pe_op op_fdiv (pv 4) pe_int) pa_nil)) (pv 1))))))))), ?_⟩
    refine ⟨.ref a, rfl, a, _, 0, .int x, rfl, rfl, hS, atI_nat (j := 0) rfl, x, 0, rfl, rfl, decide (0 < x), rfl, ite2 (fun _ => ?_) (fun _ => ?_)⟩
    · refine ⟨.ref a, rfl, a, _, 0, .int x, rfl, rfl, hS, atI_nat (j := 0) rfl, .inl ⟨x, rfl, .int n, rfl, x, n, rfl, rfl, h0, ?_⟩⟩
      refine ⟨.ref a, rfl, a, _, 0, .int x, rfl, rfl, hS, atI_nat (j := 0) rfl, .int n, rfl, x, n, rfl, rfl, ⟨h0, h1⟩, ?_⟩
      refine ⟨.ref a, rfl, a, _, 0, 0, rfl, rfl, hd, rfl, ?_⟩
      exact ⟨_, rfl, q (x % n) (x / n) z (Int.emod_nonneg _ (by omega)) (Int.emod_lt_of_pos _ h0)⟩
    · refine ⟨.ref a, rfl, a, _, 2, .int z, rfl, rfl, hS, atI_nat (j := 2) rfl, z, 1, rfl, rfl, ?_⟩
      refine ⟨.ref a, rfl, a, _, 2, 2, rfl, rfl, hd, rfl, ?_⟩
      have hd' : (upd H a (dice x y (z + 1))) a = some (dice x y (z + 1)) := upd_same
      have hS' : SqL K (upd H a (dice x y (z + 1))) a [.int x, .int y, .int (z + 1)] := SqL.of hd'
      refine ⟨.ref a, rfl, a, _, 1, .int y, rfl, rfl, hS', atI_nat (j := 1) rfl, .ref a, rfl, a, _, 2, .int (z + 1), rfl, rfl, hS', atI_nat (j := 2) rfl, _, _, rfl, rfl, .inl ⟨by decide, by decide⟩, _, _, rfl, rfl, .inl ⟨_, rfl, _, _, rfl, rfl, (by decide : (0 : Int) < 2305843009213691579), ?_⟩⟩
      have b0 := Int.emod_nonneg (y + 92821991 * (z + 1)) (show (2305843009213691579 : Int) ≠ 0 by decide)
      have b1 := Int.emod_lt_of_pos (y + 92821991 * (z + 1)) (show (0 : Int) < 2305843009213691579 by decide)
      refine ⟨_, rfl, _, rfl, _, _, rfl, rfl, .inl ⟨Int.lt_of_lt_of_le (by decide) b0, Int.lt_trans b1 (by decide)⟩, .ref a, rfl, a, _, 2, .int (z + 1), rfl, rfl, hS', atI_nat (j := 2) rfl, _, _, rfl, rfl, .inl ⟨by decide, by decide⟩, _, _, rfl, rfl, .inl ⟨_, rfl, _, _, rfl, rfl, (by decide : (0 : Int) < 2305843009213692227), _, _, rfl, rfl, .inr ⟨by decide, by decide⟩, _, rfl, _, _, rfl, rfl, ?_⟩⟩
      refine ⟨_, rfl, _, _, rfl, rfl, ⟨by decide, by decide⟩, .inl ⟨_, rfl, .int n, rfl, _, _, rfl, rfl, h0, ?_⟩⟩
      exact q _ x (z + 1) (Int.emod_nonneg _ (by omega)) (Int.emod_lt_of_pos _ h0)
def spPick (K : PySem.W.Frag) : Sp := fun vs H Q _ => ∃ (a b : Addr) (x y z : Int) (xs : List V), vs = [.ref a, .ref b] ∧ H a = some (dice x y z) ∧ H b = some (.lst xs) ∧ a ≠ b ∧ 0 < xs.length ∧ xs.length < 1000 ∧
  ∀ (i : Nat) v x' z', xs[i]? = some v → Q v (upd H a (dice x' y z'))
theorem ok_law_pick (T : Facts K mg) : FnOk P w K mg base CX0 2 T.f_law_pick T.fd_law_pick ["_law_dice_here", "_law_items"] (spPick K) := by
  have G_law_roll : FnOk P w K mg base CX0 1 T.f_law_roll T.fd_law_roll ["_law_dice_here", "_law_total"] spRoll := ok_law_roll T
  refine T.F_law_pick.ok sc_law_pick (fun vs H Q E h => ?_) (fun cdv A outer s H vs Q E hr h => ?_)
  · obtain ⟨a, b, x, y, z, xs, rfl, _⟩ := h
    rfl
  · obtain ⟨a, b, x, y, z, xs, rfl, hd, hb, hab, l0, l1, q⟩ := h
    refine ⟨_, (PSs.nox (pss_one (ps_ret (pe_ix ix_list (pv 1) (pe_call G_law_roll hr (by rfl) T.g_law_roll T.F_law_roll.kp T.b_law_roll .nil pass0 (pa_cons (pv 0) (pa_cons (pe_callB call_len_seq (by rfl) T.z_len (by decide +kernel) (pa_cons (pv 1) pa_nil)) pa_nil))) (fun _ _ => rfl))))), ?_⟩
    refine ⟨.ref b, rfl, .ref a, rfl, .ref b, rfl, b, xs, rfl, .inl (SqL.of hb), ?_⟩
    refine ⟨a, x, y, z, _, rfl, hd, (by omega : (0 : Int) < (xs.length : Int)), (by omega : (xs.length : Int) < 1073741824), fun r x' z' h1 h2 => ?_⟩
    obtain ⟨j, rfl⟩ := Int.eq_ofNat_of_zero_le h1
    have hj : j < xs.length := by omega
    exact ⟨b, xs, j, xs[j], rfl, rfl, SqL.of (by rw [upd_ne (Ne.symm hab)]; exact hb), atI_nat (List.getElem?_eq_getElem hj), q j _ x' z' (List.getElem?_eq_getElem hj)⟩
end
/-- all but the dice is as it was -/
def Sx (a : Addr) (H H' : Hp) : Prop := ∀ b o, b ≠ a → H b = some o → H' b = some o
def Dc (H : Hp) (a : Addr) : Prop := ∃ x y z, H a = some (dice x y z)
theorem Sx.refl (a : Addr) (H : Hp) : Sx a H H := fun _ _ _ h => h
theorem Sx.trans {a : Addr} {H H1 H2 : Hp} (s : Sx a H H1) (t : Sx a H1 H2) : Sx a H H2 := fun b o n h => t b o n (s b o n h)
theorem Sx.of {a : Addr} {H H' : Hp} (s : Same H H') : Sx a H H' := fun b o _ h => s b o h
theorem Sx.upd {a : Addr} {H : Hp} {o : HO} : Sx a H (upd H a o) := fun b u n h => by
  rw [upd_ne n]
  exact h
theorem Dc.same {a : Addr} {H H' : Hp} (d : Dc H a) (s : Same H H') : Dc H' a := by
  obtain ⟨x, y, z, e⟩ := d
  exact ⟨x, y, z, s _ _ e⟩
theorem Dc.ne {a p : Addr} {H : Hp} (d : Dc H a) (n : H p = none) : p ≠ a := fun e => by
  obtain ⟨x, y, z, h⟩ := d
  rw [e, h] at n
  cases n
theorem Sx.free {a p : Addr} {H H' : Hp} (s : Sx a H H') (n : H' p = none) (ne : p ≠ a) : H p = none := by
  cases q : H p with
  | none => rfl
  | some o =>
    rw [s p o ne q] at n
    cases n
/-! ### == of tuples of ints -/
theorem dpAll_ints {K : PySem.W.Frag} {H : Hp} : ∀ ns : List Int, DpAll K H (ns.map V.int) (ns.map PyData.int)
  | [] => .nil
  | n :: r => .cons (.int n) (dpAll_ints r)
theorem lay_ints : ∀ ns : List Int, PyData.canLayAll0 (ns.map PyData.int) = true
  | [] => rfl
  | n :: r => by
    show (PyData.canLay0 (.int n) && PyData.canLayAll0 (r.map PyData.int)) = true
    rw [lay_ints r]
    rfl
theorem depth_ints : ∀ ns : List Int, PyData.depthAll (ns.map PyData.int) = 0
  | [] => rfl
  | n :: r => by
    show max (PyData.depth (.int n)) (PyData.depthAll (r.map PyData.int)) = 0
    rw [depth_ints r]
    rfl
theorem shaped_tints (ns : List Int) : SeqAt.shaped (.tuple (ns.map PyData.int)) = true := by
  unfold SeqAt.shaped
  rw [show PyData.canLay0 (.tuple (ns.map PyData.int)) = PyData.canLayAll0 (ns.map PyData.int) from rfl, lay_ints]
  rw [show PyData.depth (.tuple (ns.map PyData.int)) = PyData.depthAll (ns.map PyData.int) + 1 from rfl, depth_ints]
  rfl
section
variable {P : Program} {w : World} {K : PySem.W.Frag} {mg : Str → Option Value} {base : Heap}
def spRoll2 : Sp := fun vs H Q _ => ∃ (a : Addr) (n : Int), vs = [.ref a, .int n] ∧ Dc H a ∧ 0 < n ∧ n < 1073741824 ∧ ∀ (r : Nat) H', (r : Int) < n → Sx a H H' → Dc H' a → Q (.int r) H'
theorem roll2 : ∀ vs H Q E, spRoll2 vs H Q E → spRoll vs H Q E := fun vs H Q E h => by
  obtain ⟨a, n, rfl, ⟨x, y, z, e⟩, h0, h1, q⟩ := h
  refine ⟨a, x, y, z, n, rfl, e, h0, h1, fun r x' z' r0 r1 => ?_⟩
  obtain ⟨j, rfl⟩ := Int.eq_ofNat_of_zero_le r0
  exact q j _ r1 Sx.upd ⟨x', y, z', upd_same⟩
def spPick2 : Sp := fun vs H Q _ => ∃ (a b : Addr) (xs : List V), vs = [.ref a, .ref b] ∧ Dc H a ∧ H b = some (.lst xs) ∧ b ≠ a ∧ 0 < xs.length ∧ xs.length < 1000 ∧ ∀ v H', v ∈ xs → Sx a H H' → Dc H' a → Q v H'
theorem pick2 {K : PySem.W.Frag} : ∀ vs H Q E, spPick2 vs H Q E → spPick K vs H Q E := fun vs H Q E h => by
  obtain ⟨a, b, xs, rfl, ⟨x, y, z, e⟩, hb, ne, l0, l1, q⟩ := h
  exact ⟨a, b, x, y, z, xs, rfl, e, hb, Ne.symm ne, l0, l1, fun i v x' z' hv => q v _ (List.mem_of_getElem? hv) Sx.upd ⟨x', y, z', upd_same⟩⟩
end
end K27

set_option Elab.async false
set_option linter.all false
set_option maxRecDepth 100000
set_option maxHeartbeats 4000000
namespace K27
open PySem PySem.Spec PyProof.Rows L2 StX
/-! ### lists as tables of functions -/
def tab (L : Nat) (f : Nat → Int) : List V := (List.range L).map fun k => V.int (f k)
theorem tab_len (L : Nat) (f : Nat → Int) : (tab L f).length = L := by
  unfold tab
  rw [List.length_map, List.length_range]
theorem tab_get {L : Nat} {f : Nat → Int} {k : Nat} (h : k < L) : (tab L f)[k]? = some (.int (f k)) := by
  unfold tab
  rw [List.getElem?_map, List.getElem?_range h]
  rfl
theorem tab_ext {L : Nat} {f g : Nat → Int} (h : ∀ k, k < L → f k = g k) : tab L f = tab L g := by
  unfold tab
  exact List.map_congr_left fun k hk => by rw [h k (List.mem_range.mp hk)]
theorem tab_none {L : Nat} {f : Nat → Int} {k : Nat} (h : L ≤ k) : (tab L f)[k]? = none := List.getElem?_eq_none (by rw [tab_len]; exact h)
theorem tab_set {L : Nat} {f : Nat → Int} {j : Nat} {v : Int} : (tab L f).set j (.int v) = tab L (fun k => if k = j then v else f k) := by
  apply List.ext_getElem?
  intro k
  by_cases hk : k < L
  · rw [tab_get hk]
    by_cases e : k = j
    · subst e
      rw [List.getElem?_set_self (by rw [tab_len]; exact hk), if_pos rfl]
    · rw [List.getElem?_set_ne (Ne.symm e), tab_get hk, if_neg e]
  · rw [tab_none (Nat.le_of_not_lt hk), List.getElem?_eq_none (by rw [List.length_set, tab_len]; exact Nat.le_of_not_lt hk)]
theorem tab_app {a b : Nat} {f : Nat → Int} (h : ∀ k, a ≤ k → k < a + b → f k = 0) : tab a f ++ List.replicate b (V.int 0) = tab (a + b) f := by
  apply List.ext_getElem?
  intro k
  by_cases hk : k < a
  · rw [List.getElem?_append_left (by rw [tab_len]; exact hk), tab_get hk, tab_get (by omega)]
  · rw [List.getElem?_append_right (by rw [tab_len]; omega), tab_len]
    by_cases h2 : k < a + b
    · rw [tab_get h2, List.getElem?_replicate, if_pos (by omega), h k (by omega) h2]
    · rw [tab_none (by omega), List.getElem?_replicate, if_neg (by omega)]
theorem tab_take {L n : Nat} {f : Nat → Int} (h : n ≤ L) : cutV (tab L f) none (some (n : Int)) = tab n f := by
  unfold cutV
  rw [HT.sIx_none, HT.sIx_nat, tab_len, List.drop_zero, Nat.sub_zero, Nat.min_eq_left h]
  apply List.ext_getElem?
  intro k
  rw [List.getElem?_take]
  by_cases hk : k < n
  · rw [if_pos hk, tab_get (by omega), tab_get hk]
  · rw [if_neg hk, tab_none (by omega)]
/-- the counts of the boxes, weight by weight -/
def rowI (p m : Nat) : List Int := (List.range (p * m + 1)).map fun k : Nat => G p m k
theorem rowI_tab (p m : Nat) : (rowI p m).map V.int = tab (p * m + 1) fun k => G p m k := by
  unfold rowI tab
  rw [List.map_map]
  rfl
/-- one part more, first loop, second loop -/
def W1 (i m L j : Nat) (k : Nat) : Int := if L ≤ k + j then G i m k - G i m ((k : Int) - (m + (i + 1) : Nat)) else G i m k
def W2 (i m j : Nat) (k : Nat) : Int := if k < i + 1 + j then G (i + 1) m k else G i m k - G i m ((k : Int) - (m + (i + 1) : Nat))
theorem W1_0 {i m L k : Nat} (h : k < L) : W1 i m L 0 k = G i m k := by
  unfold W1
  rw [if_neg (by omega)]
theorem W1_end {i m L : Nat} {k : Nat} (hL : m + (i + 1) ≤ L) : W1 i m L (L - (m + (i + 1))) k = G i m k - G i m ((k : Int) - (m + (i + 1) : Nat)) := by
  unfold W1
  split
  · rfl
  · rw [G_neg i m ((k : Int) - ((m + (i + 1) : Nat) : Int)) (by omega)]
    omega
theorem W1_step {i m L j k : Nat} (hj : j < L - (m + (i + 1))) (hk : k < L) : (if k = L - 1 - j then W1 i m L j (L - 1 - j) - W1 i m L j (L - 1 - j - (m + (i + 1))) else W1 i m L j k) = W1 i m L (j + 1) k := by
  unfold W1
  by_cases e : k = L - 1 - j
  · subst e
    rw [if_pos rfl, if_neg (by omega), if_neg (by omega), if_pos (by omega)]
    rw [show (((L - 1 - j - (m + (i + 1)) : Nat)) : Int) = ((L - 1 - j : Nat) : Int) - ((m + (i + 1) : Nat) : Int) by omega]
  · rw [if_neg e]
    by_cases h : L ≤ k + j
    · rw [if_pos h, if_pos (by omega)]
    · rw [if_neg h, if_neg (by omega)]
theorem W2_0 {i m k : Nat} : W2 i m 0 k = G i m k - G i m ((k : Int) - (m + (i + 1) : Nat)) := by
  unfold W2
  split
  · have e := G_key i m (k : Int)
    rw [G_neg (i + 1) m ((k : Int) - ((i + 1 : Nat) : Int)) (by omega)] at e
    omega
  · rfl
theorem W2_step {i m j k : Nat} : (if k = i + 1 + j then W2 i m j (i + 1 + j) + W2 i m j j else W2 i m j k) = W2 i m (j + 1) k := by
  unfold W2
  by_cases e : k = i + 1 + j
  · subst e
    rw [if_pos rfl, if_neg (by omega), if_pos (by omega), if_pos (by omega)]
    have e := G_key i m ((i + 1 + j : Nat) : Int)
    rw [show ((i + 1 + j : Nat) : Int) - ((i + 1 : Nat) : Int) = (j : Int) by omega] at e
    omega
  · rw [if_neg e]
    by_cases h : k < i + 1 + j
    · rw [if_pos h, if_pos (by omega)]
    · rw [if_neg h, if_neg (by omega)]
theorem W2_end {i m L k : Nat} (hk : k < L) (hL : i + 1 ≤ L) : W2 i m (L - (i + 1)) k = G (i + 1) m k := by
  unfold W2
  rw [if_pos (by omega)]
theorem ix_at {n : Nat} {z : Int} {j : Nat} (e : z = (j : Int)) (h : j < n) : ixN n z = some j := by
  rw [e]
  exact Evl.ixN_nat h
section
variable {P : Program} {w : World} {K : PySem.W.Frag} {mg : Str → Option Value} {base : Heap}
def spRow : Sp := fun vs H Q _ => ∃ p m : Nat, vs = [.int p, .int m] ∧ p ≤ 40 ∧ m ≤ 40 ∧ ∀ l H', Same H H' → H l = none → H' l = some (.lst ((rowI p m).map V.int)) → Q (.ref l) H'
theorem ok_row_in (T : Facts K mg) : FnOk P w K mg base CX0 1 T.f_row_in T.fd_row_in ["parts", "most"] spRow := by
  refine T.F_row_in.ok sc_row_in (fun vs H Q E h => ?_) (fun cdv A outer s H vs Q E hr h => ?_)
  · obtain ⟨p, m, rfl, _⟩ := h
    rfl
  · obtain ⟨p, m, rfl, hp, hm, q⟩ := h
    refine ⟨_, (PSs.nox (pss_cons (ps_set (i := 2) sc_row_in.nd rfl (.inl rfl) (pe_lst (pa_cons pe_int pa_nil)))
    (pss_cons (ps_for PassesOwn.never (by rfl) (pi_range2 (by rfl) T.z_range (pa_cons pe_int (pa_cons (pe_op op_add (pv 0) pe_int) pa_nil))) (pg_name (i := 3) sc_row_in.nd rfl (.inl rfl))
      (pss_cons (ps_set (i := 4) sc_row_in.nd rfl (.inl rfl) (pe_lst (pa_star (pv 2) (pa_star (pe_lc (own := [("place", 5)]) (g := (gName 5)) (tt := tYes) (by rfl) sc_row_in.nd (pi_range1 (by rfl) T.z_range (pa_cons (pe_op op_add (pv 1) (pv 3)) pa_nil)) (blkOk_by (N := N_row_in) (sc := defScope s_row_in) (by decide +kernel)) (fun _ _ _ _ _ => (pg_name (i := 5) sc_row_in.nd rfl (.inl rfl))) (fun _ _ _ _ _ => pts_nil) (fun _ _ _ _ _ => pe_int)) pa_nil))))
      (pss_cons (ps_for PassesOwn.never (by rfl) (pi_range3 (by rfl) T.z_range (pa_cons (pe_op op_sub (pe_callB call_len_seq (by rfl) T.z_len (by decide +kernel) (pa_cons (pv 4) pa_nil)) pe_int) (pa_cons (pe_op op_sub (pe_op op_add (pv 1) (pv 3)) pe_int) (pa_cons (pe_un un_neg pe_int) pa_nil)))) (pg_name (i := 5) sc_row_in.nd rfl (.inl rfl))
        (pss_one (ps_asg (pe_op op_sub (pe_ix ix_list (pv 4) (pv 5) (fun _ _ => rfl)) (pe_ix ix_list (pv 4) (pe_op op_sub (pe_op op_sub (pv 5) (pv 1)) (pv 3)) (fun _ _ => rfl))) (pg_sub (pv 4) (pv 5) set_list))))
      (pss_cons (ps_for PassesOwn.never (by rfl) (pi_range2 (by rfl) T.z_range (pa_cons (pv 3) (pa_cons (pe_callB call_len_seq (by rfl) T.z_len (by decide +kernel) (pa_cons (pv 4) pa_nil)) pa_nil))) (pg_name (i := 5) sc_row_in.nd rfl (.inl rfl))
        (pss_one (ps_asg (pe_op op_add (pe_ix ix_list (pv 4) (pv 5) (fun _ _ => rfl)) (pe_ix ix_list (pv 4) (pe_op op_sub (pv 5) (pv 3)) (fun _ _ => rfl))) (pg_sub (pv 4) (pv 5) set_list))))
      (pss_one (ps_set (i := 2) sc_row_in.nd rfl (.inl rfl) (pe_slice sl_list (pv 4) po_none (po_some (pe_op op_add (pe_op op_mul (pv 3) (pv 1)) pe_int)))))))))
    (pss_one (ps_ret (pv 2)))))), ?_⟩
    -- row = [1]
    refine ⟨by show 1 ≤ sizeLine; decide, fun r0 nr0 => ?_⟩
    -- for part in range(1, parts + 1)
    refine ⟨.int p, rfl, p, 1, rfl, rfl, 1, (p : Int) + 1, rfl, ⟨by decide, by decide, by omega, by omega⟩, for_range (n := ((p : Int) + 1 - 1).toNat) (fun i σ H3 => ∃ r y3 y4 y5, σ = [some (.int p), some (.int m), some (.ref r), y3, y4, y5] ∧ Same H H3 ∧ H r = none ∧ H3 r = some (.lst (tab (i * m + 1) fun k => G i m k)))
      ⟨r0, none, none, none, rfl, same_upd0 nr0, nr0, ?_⟩ (fun i σ H3 hi hP => ?_) (fun σ H3 hP => ?_)⟩
    · rw [upd_same]
      show some (HO.lst [V.int 1]) = _
      rw [show (0 * m + 1) = 1 by omega]
      show _ = some (HO.lst [V.int (G 0 m 0)])
      rw [G_0]
      rfl
    · obtain ⟨r, y3, y4, y5, rfl, sm, nr, hrow⟩ := hP
      have hi' : i < p := by omega
      -- wide = [*row, *[0 for place in range(most + part)]]
      refine ⟨.ref r, rfl, r, _, rfl, .inr (SqL.of hrow), ?_⟩
      refine ⟨.int m, rfl, _, rfl, _, _, rfl, rfl, _, rfl, (by show -(2 ^ 62) ≤ (m : Int) + (1 + (i : Int)); omega), (by show (m : Int) + (1 + (i : Int)) < 2 ^ 62; omega), fun D hD => lc_range (n := _) (fun j H' => H' = upd H3 D (.lst (List.replicate j (V.int 0)))) rfl (fun j H' hj hP => ?_) (fun H' hP => ?_)⟩
      · subst hP
        refine ⟨rfl, ⟨_, upd_same, ?_, ?_⟩⟩
        · rw [List.length_replicate]
          exact small1000 (by omega)
        · rw [upd_upd, List.replicate_succ']
      · subst hP
        have hmul : (i + 1) * m = i * m + m := Nat.succ_mul i m
        have hle : i * m ≤ 40 * 40 := Nat.mul_le_mul (by omega) hm
        obtain ⟨L, hL⟩ : ∃ L, L = i * m + 1 + (m + (1 + i)) := ⟨_, rfl⟩
        refine ⟨D, _, rfl, .inr (SqL.of upd_same), ?_⟩
        have ew : tab (i * m + 1) (fun k => G i m k) ++ (List.replicate ((m : Int) + (1 + (i : Int))).toNat (V.int 0) ++ []) = tab L fun k => G i m k := by
          rw [List.append_nil, show ((m : Int) + (1 + (i : Int))).toNat = m + (1 + i) by omega, hL]
          refine tab_app fun k hk _ => ?_
          exact G_sup i m k (by omega)
        refine ⟨?_, fun w0 nw => ?_⟩
        · show (tab (i * m + 1) (fun k => G i m k) ++ (List.replicate ((m : Int) + (1 + (i : Int))).toNat (V.int 0) ++ [])).length ≤ sizeLine
          rw [ew, tab_len]
          exact Nat.le_of_lt (Nat.lt_of_lt_of_le (show L < 4000 by omega) (by decide))
        obtain ⟨Hw, eHw⟩ : ∃ Hw, Hw = upd H3 D (.lst (List.replicate ((m : Int) + (1 + (i : Int))).toNat (V.int 0))) := ⟨_, rfl⟩
        have smw : Same H Hw := by
          rw [eHw]
          exact sm.trans (same_upd0 hD)
        rw [← eHw] at nw
        show _
        rw [ew, ← eHw]
        have nwH : H w0 = none := Same.free smw nw
        -- the first loop
        refine ⟨.ref w0, rfl, w0, _, rfl, .inl (SqL.of upd_same), ?_⟩
        rw [tab_len]
        refine ⟨L, 1, rfl, rfl, .int m, rfl, _, rfl, _, _, rfl, rfl, _, _, rfl, rfl, 1, rfl, _, _, _, _, rfl, RgC.neg (by omega) (by omega) (by omega) (by omega), ?_⟩
        rw [show ((L : Int) - 1 - ((m : Int) + (1 + (i : Int)) - 1)).toNat = L - (m + (i + 1)) by omega]
        refine for_rangeC (n := L - (m + (i + 1))) (fun j σ H' => ∃ y5, σ = [some (.int p), some (.int m), some (.ref r), some (.int (1 + i)), some (.ref w0), y5] ∧ H' = upd Hw w0 (.lst (tab L (W1 i m L j)))) ⟨y5, rfl, ?_⟩ (fun j σ H' hj hP => ?_) (fun σ H' hP => ?_)
        · rw [tab_ext fun k hk => W1_0 hk]
        · obtain ⟨y5, rfl, rfl⟩ := hP
          have e1 : (L : Int) - 1 + (j : Int) * -1 = ((L - 1 - j : Nat) : Int) := by omega
          have e2 : (L : Int) - 1 + (j : Int) * -1 - (m : Int) - (1 + (i : Int)) = ((L - 1 - j - (m + (i + 1)) : Nat) : Int) := by omega
          refine ⟨.ref w0, rfl, _, rfl, w0, _, _, _, rfl, rfl, SqL.of upd_same, at_of e1 (tab_get (by omega)), .ref w0, rfl, _, rfl, _, rfl, _, _, rfl, rfl, _, rfl, _, _, rfl, rfl, w0, _, _, _, rfl, rfl, SqL.of upd_same, at_of e2 (tab_get (by omega)), _, _, rfl, rfl, ?_⟩
          refine ⟨.ref w0, rfl, _, rfl, w0, _, _, (L - 1 - j), rfl, rfl, upd_same, ?_, ?_⟩
          · rw [tab_len]
            exact ix_at e1 (by omega)
          · refine ⟨_, rfl, ?_⟩
            rw [upd_upd]
            show upd Hw w0 (.lst ((tab L (W1 i m L j)).set (L - 1 - j) (.int (W1 i m L j (L - 1 - j) - W1 i m L j (L - 1 - j - (m + (i + 1))))))) = _
            rw [tab_set, tab_ext fun k hk => W1_step hj hk]
        · obtain ⟨y5, rfl, rfl⟩ := hP
          rw [tab_ext fun k hk => (W1_end (i := i) (m := m) (L := L) (k := k) (by omega)).trans W2_0.symm]
          -- the second loop
          refine ⟨.int (1 + i), rfl, .ref w0, rfl, w0, _, rfl, .inl (SqL.of upd_same), ?_⟩
          rw [tab_len]
          refine ⟨1 + i, L, rfl, ⟨by omega, by omega, by omega, by omega⟩, ?_⟩
          rw [show ((L : Int) - (1 + (i : Int))).toNat = L - (i + 1) by omega]
          refine for_range (n := L - (i + 1)) (fun j σ H' => ∃ y5, σ = [some (.int p), some (.int m), some (.ref r), some (.int (1 + i)), some (.ref w0), y5] ∧ H' = upd Hw w0 (.lst (tab L (W2 i m j)))) ⟨y5, rfl, rfl⟩ (fun j σ H' hj hP => ?_) (fun σ H' hP => ?_)
          · obtain ⟨y5, rfl, rfl⟩ := hP
            have e1 : 1 + (i : Int) + (j : Int) = ((i + 1 + j : Nat) : Int) := by omega
            have e2 : 1 + (i : Int) + (j : Int) - (1 + (i : Int)) = ((j : Nat) : Int) := by omega
            refine ⟨.ref w0, rfl, _, rfl, w0, _, _, _, rfl, rfl, SqL.of upd_same, at_of e1 (tab_get (by omega)), .ref w0, rfl, _, rfl, _, rfl, _, _, rfl, rfl, w0, _, _, _, rfl, rfl, SqL.of upd_same, at_of e2 (tab_get (by omega)), _, _, rfl, rfl, ?_⟩
            refine ⟨.ref w0, rfl, _, rfl, w0, _, _, (i + 1 + j), rfl, rfl, upd_same, ?_, ?_⟩
            · rw [tab_len]
              exact ix_at e1 (by omega)
            · refine ⟨_, rfl, ?_⟩
              rw [upd_upd]
              show upd Hw w0 (.lst ((tab L (W2 i m j)).set (i + 1 + j) (.int (W2 i m j (i + 1 + j) + W2 i m j j)))) = _
              rw [tab_set, tab_ext fun k hk => W2_step]
          · obtain ⟨y5, rfl, rfl⟩ := hP
            rw [tab_ext fun k hk => W2_end hk (by omega)]
            -- row = wide[:part * most + 1]
            refine ⟨.ref w0, rfl, _, rfl, _, rfl, _, _, rfl, rfl, .inl ⟨by show -(2 ^ 64) < 1 + (i : Int); omega, by show 1 + (i : Int) < 2 ^ 64; omega⟩, _, _, rfl, rfl, _, rfl, w0, _, rfl, SqL.of upd_same, fun l nl => ?_⟩
            have smw0 : Same Hw (upd Hw w0 (.lst (tab L fun k => G (i + 1) m k))) := same_upd0 nw
            refine ⟨l, _, _, _, rfl, smw.trans (smw0.trans (same_upd0 nl)), Same.free (smw.trans smw0) nl, ?_⟩
            rw [upd_same]
            have e3 : (1 + (i : Int)) * (m : Int) + 1 = (((i + 1) * m + 1 : Nat) : Int) := by
              rw [hmul, Int.add_mul, Int.one_mul, ← Int.natCast_mul]
              omega
            show some (HO.lst (cutV (tab L fun k => G (i + 1) m k) none (some ((1 + (i : Int)) * (m : Int) + 1)))) = _
            rw [e3, tab_take (by omega)]
    · obtain ⟨r, y3, y4, y5, rfl, sm, nr, hrow⟩ := hP
      refine ⟨_, rfl, q r H3 sm nr ?_⟩
      rw [hrow, rowI_tab, show ((p : Int) + 1 - 1).toNat = p by omega]
end
end K27

set_option Elab.async false
set_option linter.all false
set_option maxRecDepth 100000
set_option maxHeartbeats 4000000
namespace K27
open PySem PySem.Spec PyProof.Rows L2 StX
theorem rowI_len (p m : Nat) : (rowI p m).length = p * m + 1 := by
  unfold rowI
  rw [List.length_map, List.length_range]
theorem rowI_get {p m k : Nat} (h : k < p * m + 1) : (rowI p m)[k]? = some (G p m k) := by
  unfold rowI
  rw [List.getElem?_map, List.getElem?_range h]
  rfl
theorem rowI_count (p m : Nat) (n : Int) : (if 0 ≤ n ∧ n < ((rowI p m).length : Int) then (rowI p m).getD n.toNat 0 else 0) = G p m n := by
  rw [rowI_len]
  split
  · obtain ⟨j, rfl⟩ := Int.eq_ofNat_of_zero_le (show 0 ≤ n by omega)
    rw [show ((j : Int)).toNat = j from rfl, List.getD_eq_getElem?_getD, rowI_get (by omega)]
    rfl
  · by_cases h : n < 0
    · rw [G_neg p m n h]
    · rw [G_sup p m n (by omega)]
section
variable {P : Program} {w : World} {K : PySem.W.Frag} {mg : Str → Option Value} {base : Heap}
def spBoxCount : Sp := fun vs H Q _ => ∃ (n : Int) (p m : Nat), vs = [.int n, .int p, .int m] ∧ 0 ≤ n ∧ n ≤ 1600 ∧ p ≤ 40 ∧ m ≤ 40 ∧ ∀ H', Same H H' → Q (.int (G p m n)) H'
theorem ok_box_count (T : Facts K mg) : FnOk P w K mg base CX0 4 T.f_box_count T.fd_box_count ["weight", "parts", "most"] spBoxCount := by
  have G_require_part : FnOk P w K mg base CX0 3 T.f_require_part T.fd_require_part ["value"] (spReq 40) := ok_require_part T
  have G_require_weight : FnOk P w K mg base CX0 3 T.f_require_weight T.fd_require_weight ["value"] (spReq 1600) := ok_require_weight T
  have G_count_in : FnOk P w K mg base CX0 1 T.f_count_in T.fd_count_in ["weight", "row"] (spCount K) := ok_count_in T
  have G_row_in : FnOk P w K mg base CX0 1 T.f_row_in T.fd_row_in ["parts", "most"] spRow := ok_row_in T
  refine T.F_box_count.ok sc_box_count (fun vs H Q E h => ?_) (fun cdv A outer s H vs Q E hr h => ?_)
  · obtain ⟨n, p, m, rfl, _⟩ := h
    rfl
  · obtain ⟨n, p, m, rfl, h0, h1, hp, hm, q⟩ := h
    refine ⟨_, (PSs.nox (pss_cons (ps_expr (pe_call G_require_weight hr (by rfl) T.g_require_weight T.F_require_weight.kp T.b_require_weight .nil pass0 (pa_cons (pv 0) pa_nil)))
    (pss_cons (ps_expr (pe_call G_require_part hr (by rfl) T.g_require_part T.F_require_part.kp T.b_require_part .nil pass0 (pa_cons (pv 1) pa_nil)))
    (pss_cons (ps_expr (pe_call G_require_part hr (by rfl) T.g_require_part T.F_require_part.kp T.b_require_part .nil pass0 (pa_cons (pv 2) pa_nil)))
    (pss_one (ps_ret (pe_call G_count_in (hr.mono (by decide)) (by rfl) T.g_count_in T.F_count_in.kp T.b_count_in .nil pass0 (pa_cons (pv 0) (pa_cons (pe_call G_row_in (hr.mono (by decide)) (by rfl) T.g_row_in T.F_row_in.kp T.b_row_in .nil pass0 (pa_cons (pv 1) (pa_cons (pv 2) pa_nil))) pa_nil))))))))), ?_⟩
    refine ⟨.int n, rfl, n, rfl, h0, h1, ?_⟩
    refine ⟨.int p, rfl, p, rfl, by omega, by omega, ?_⟩
    refine ⟨.int m, rfl, m, rfl, by omega, by omega, ?_⟩
    refine ⟨.int n, rfl, .int p, rfl, .int m, rfl, p, m, rfl, hp, hm, fun l H' sm nl hl => ?_⟩
    refine ⟨n, l, rowI p m, rfl, SqL.of hl, ?_⟩
    rw [rowI_count]
    exact q H' sm
end
end K27

set_option Elab.async false
set_option linter.all false
set_option maxRecDepth 100000
set_option maxHeartbeats 1000000
/-! what the finite checks tell; small tools -/
namespace K27
open PySem PySem.Spec PyProof.Rows L2 StX
theorem isBx_ok {b : List Nat} (h : isBx b = true) : Bx b := by
  unfold isBx at h
  simp only [Bool.and_eq_true] at h
  obtain ⟨⟨h1, h2⟩, h3⟩ := h
  refine ⟨of_decide_eq_true h1, fun x hx => ?_, ?_⟩
  · have := List.all_eq_true.mp h2 x hx
    simp only [Bool.and_eq_true] at this
    exact ⟨of_decide_eq_true this.1, of_decide_eq_true this.2⟩
  · have key : ∀ l : List Nat, isBx.dscN l = true → l.Pairwise (· ≥ ·) := by
      intro l
      induction l with
      | nil => intro _; exact List.Pairwise.nil
      | cons x r ih =>
        intro z
        have z' : ((r.all fun y => decide (y ≤ x)) && isBx.dscN r) = true := z
        simp only [Bool.and_eq_true] at z'
        exact List.pairwise_cons.mpr ⟨fun y hy => of_decide_eq_true (List.all_eq_true.mp z'.1 y hy), ih z'.2⟩
    exact key b h3
theorem dsc_ok : ∀ {l : List (List Nat)}, dsc l = true → l.Pairwise fun x y => nlt y x = true
  | [], _ => List.Pairwise.nil
  | x :: r, h => by
    have z : ((r.all fun y => nlt y x) && dsc r) = true := h
    simp only [Bool.and_eq_true] at z
    exact List.pairwise_cons.mpr ⟨fun y hy => List.all_eq_true.mp z.1 y hy, dsc_ok z.2⟩
structure BxOk (p m w : Nat) : Prop where
  few : (D p m w).length < 64
  desc : (D p m w).Pairwise fun x y => nlt y x = true
  num : ((D p m w).length : Int) = G p m w
  perm : ((D p m w).map tn).Perm (D m p w)
  bx : ∀ b ∈ D p m w, Bx b
  ne : 2 ≤ (D p m w).length → ∀ b ∈ D p m w, b ≠ []
theorem bxOk {p m w : Nat} (hp : p < 7) (hm : m < 7) (hw : w < p * m + 2) : BxOk p m w := by
  have h1 := List.all_eq_true.mp ck_all p (List.mem_range.mpr hp)
  have h2 := List.all_eq_true.mp h1 m (List.mem_range.mpr hm)
  have h3 : ck p m w = true := List.all_eq_true.mp h2 w (List.mem_range.mpr hw)
  unfold ck at h3
  simp only [Bool.and_eq_true] at h3
  obtain ⟨⟨⟨⟨⟨a, b⟩, c⟩, d⟩, e⟩, f⟩ := h3
  refine ⟨of_decide_eq_true a, dsc_ok b, ?_, List.isPerm_iff.mp d, fun x hx => isBx_ok (List.all_eq_true.mp e x hx), fun h2 x hx z => ?_⟩
  · rw [of_decide_eq_true c]
    exact GN_eq p m w
  · rcases Bool.or_eq_true _ _ ▸ f with g | g
    · have := of_decide_eq_true g
      omega
    · have := List.all_eq_true.mp g x hx
      rw [z] at this
      cases this
/-! ### sorted lists are one -/
theorem nlt_irr : ∀ a : List Nat, nlt a a = false
  | [] => rfl
  | x :: a => by
    show (if x = x then nlt a a else decide (x < x)) = false
    rw [if_pos rfl, nlt_irr a]
/-- the boxes ascend -/
theorem BxOk.asc {p m w : Nat} (h : BxOk p m w) : (D p m w).reverse.Pairwise fun x y => nlt y x = false := by
  refine List.pairwise_reverse.mpr (h.desc.imp fun {x y} z => ?_)
  cases q : nlt x y with
  | false => rfl
  | true =>
    have := NtL.lex_asym _ _ (show HT.lexLt (x.map Int.ofNat) (y.map Int.ofNat) = true by rw [nlt_int]; exact q)
    rw [nlt_int, z] at this
    cases this
theorem BxOk.nodup {p m w : Nat} (h : BxOk p m w) : (D p m w).Nodup := h.desc.imp fun {x y} z e => by
  rw [e, nlt_irr] at z
  cases z
theorem lex_anti : ∀ {a b : List Int}, HT.lexLt a b = false → HT.lexLt b a = false → a = b
  | [], [], _, _ => rfl
  | [], _ :: _, h, _ => by rw [HT.lexLt_nil_cons] at h; cases h
  | _ :: _, [], _, h => by rw [HT.lexLt_nil_cons] at h; cases h
  | x :: a, y :: b, h, k => by
    rw [HT.lexLt_cons] at h k
    by_cases c : x = y
    · subst c
      rw [if_pos rfl] at h k
      rw [lex_anti h k]
    · rw [if_neg c] at h
      rw [if_neg (Ne.symm c)] at k
      have := of_decide_eq_false h
      have := of_decide_eq_false k
      omega
/-! ### tools -/
abbrev tp (ns : List Int) : HO := .tup (ns.map V.int)
abbrev ls (ns : List Int) : HO := .lst (ns.map V.int)
abbrev bI (b : List Nat) : List Int := b.map Int.ofNat
@[elab_as_elim] theorem gen_upd {Gp : Hp → Prop} (H : Hp) (p : Addr) (o : HO) (n : H p = none) (h : ∀ H', Same H H' → H' p = some o → Gp H') : Gp (upd H p o) := h _ (same_upd0 n) upd_same
theorem st_norm {S : TS} {D : Ends} {σ : L2.St} (σ' : L2.St) {H : Hp} (e : σ = σ') (h : S D σ' H) : S D σ H := e ▸ h
theorem sz2 : 2 ≤ sizeLine := by decide
theorem sz1 : 1 ≤ sizeLine := by decide
theorem eqvAll_ints : ∀ xs ys : List Int, PyData.eqvAll (xs.map PyData.int) (ys.map PyData.int) = decide (xs = ys)
  | [], [] => rfl
  | [], _ :: _ => by rw [decide_eq_false (by simp)]; rfl
  | _ :: _, [] => by rw [decide_eq_false (by simp)]; rfl
  | x :: xs, y :: ys => by
    show (PyData.eqv (.int x) (.int y) && PyData.eqvAll (xs.map PyData.int) (ys.map PyData.int)) = _
    rw [eqvAll_ints xs ys, show PyData.eqv (.int x) (.int y) = decide (x = y) from rfl]
    by_cases c : x = y
    · rw [decide_eq_true c, c]
      by_cases d : xs = ys
      · rw [decide_eq_true d, decide_eq_true (by rw [d])]; rfl
      · rw [decide_eq_false d, decide_eq_false (fun z => d (List.cons.inj z).2)]; rfl
    · rw [decide_eq_false c, decide_eq_false (fun z => c (List.cons.inj z).1)]; rfl
theorem eqv_ints (xs ys : List Int) : PyData.eqv (.tuple (xs.map PyData.int)) (.tuple (ys.map PyData.int)) = decide (xs = ys) := eqvAll_ints xs ys
theorem eq_ints {K : PySem.W.Frag} {H : Hp} {a b : Addr} {xs ys : List Int} {Q : VK} (ha : SqT K H a (xs.map V.int)) (hb : SqT K H b (ys.map V.int)) (q : Q (.bl (decide (xs = ys))) H) : rEqD K (.ref a) (.ref b) H Q := by
  refine ⟨_, _, .tup ha (dpAll_ints xs), .tup hb (dpAll_ints ys), shaped_tints xs, shaped_tints ys, ?_⟩
  rw [eqv_ints]
  exact q
theorem ne_ints {K : PySem.W.Frag} {H : Hp} {a b : Addr} {xs ys : List Int} {Q : VK} (ha : SqT K H a (xs.map V.int)) (hb : SqT K H b (ys.map V.int)) (q : Q (.bl (!decide (xs = ys))) H) : rNeD K (.ref a) (.ref b) H Q := by
  refine ⟨_, _, .tup ha (dpAll_ints xs), .tup hb (dpAll_ints ys), shaped_tints xs, shaped_tints ys, ?_⟩
  rw [eqv_ints]
  exact q
theorem ne_sameD {K : PySem.W.Frag} {H : Hp} {x y : V} {d : PyData} {Q : VK} (hx : L2.Dp K H x d) (hy : L2.Dp K H y d) (hl : PyData.canLay0 d = true) (hs : SeqAt.shaped d = true) (q : Q (.bl false) H) : rNeD K x y H Q := by
  refine ⟨d, d, hx, hy, hs, hs, ?_⟩
  rw [SeqAt.eqv_refl d hl]
  exact q
theorem eq_sameD {K : PySem.W.Frag} {H : Hp} {x y : V} {d : PyData} {Q : VK} (hx : L2.Dp K H x d) (hy : L2.Dp K H y d) (hl : PyData.canLay0 d = true) (hs : SeqAt.shaped d = true) (q : Q (.bl true) H) : rEqD K x y H Q := by
  refine ⟨d, d, hx, hy, hs, hs, ?_⟩
  rw [SeqAt.eqv_refl d hl]
  exact q
theorem cutV_map (xs : List Int) (lo hi : Option Int) : cutV (xs.map V.int) lo hi = ((xs.drop (HT.sIx xs.length 0 lo)).take (HT.sIx xs.length xs.length hi - HT.sIx xs.length 0 lo)).map V.int := by
  unfold cutV
  rw [List.length_map, List.map_take, List.map_drop]
theorem cut_row {K : PySem.W.Frag} {a : Addr} {H : Hp} {xs : List Int} {lo hi : Option Int} {Q : VK} (ha : H a = some (tp xs)) (q : ∀ p H', Same H H' → H' p = some (tp ((xs.drop (HT.sIx xs.length 0 lo)).take (HT.sIx xs.length xs.length hi - HT.sIx xs.length 0 lo))) → Q (.ref p) H') : rSlA K (.ref a) lo hi H Q := by
  refine ⟨a, _, rfl, SqT.of ha, fun e => ?_, fun _ p hp => ?_⟩
  · rw [List.length_map] at e
    refine q a H (fun _ _ e => e) ?_
    rw [e.1, e.2, List.drop_zero, Nat.sub_zero, List.take_length]
    exact ha
  · refine q p _ (same_upd0 hp) ?_
    rw [upd_same, cutV_map]
theorem drop_row {K : PySem.W.Frag} {a : Addr} {H : Hp} {xs : List Int} {i : Nat} {z : Int} {Q : VK} (ha : H a = some (tp xs)) (hz : z = (i : Int)) (q : ∀ p H', Same H H' → H' p = some (tp (xs.drop i)) → Q (.ref p) H') : rSlA K (.ref a) (some z) none H Q := by
  subst hz
  refine cut_row ha fun p H' s k => q p H' s ?_
  rw [HT.sIx_none, HT.sIx_nat] at k
  rw [k]
  congr 3
  by_cases c : i ≤ xs.length
  · rw [Nat.min_eq_left c]
    exact List.take_of_length_le (by rw [List.length_drop]; omega)
  · rw [Nat.min_eq_right (by omega), List.drop_length, List.drop_of_length_le (by omega), List.take_nil]
theorem lc_zipU {K : PySem.W.Frag} {a b : Addr} {xs ys : List V} {g : TG} {tt : TT} {te : TE} {vs : List Nat} {σ : L2.St} {H1 : Hp} {D : Addr} {Qd : Hp → Prop} (n : Nat) (h1 : n ≤ xs.length) (h2 : n ≤ ys.length) (hl : xs.length ≤ n ∨ ys.length ≤ n) (Pv : Nat → Hp → Prop) (h0 : Pv 0 (upd H1 D (.lst []))) (hq : ∀ i H, i ≤ n → Pv i H → SqT K H a xs ∧ SqT K H b ys)
    (hs : ∀ (i : Nat) (x y : V) (T : Addr) (H : Hp), i < n → xs[i]? = some x → ys[i]? = some y → Pv i H → H T = none → g (.ref T) (wipe σ vs) (upd H T (.tup [x, y])) fun σ2 H2 => wipe σ2 vs = wipe σ vs ∧ tt σ2 H2 fun b H3 =>
      if b = true then te σ2 H3 fun y H4 => ∃ acc, H4 D = some (.lst acc) ∧ acc.length < sizeLine ∧ Pv (i + 1) (upd H4 D (.lst (acc ++ [y]))) else Pv (i + 1) H3) (hd : ∀ H, Pv n H → Qd H) :
    ∃ W : Nat → Nat → Hp → Prop, (∃ m, W 0 m (upd H1 D (.lst []))) ∧ ∀ i m H, W i m H →
      ((RZ.ItzT K a b).stop i H ∧ Qd H) ∨ ((RZ.ItzT K a b).go i H ∧ ∃ Nx : Hp → Prop, (∀ H', Nx H' → ∃ m', m' < m ∧ W (i + 1) m' H') ∧ ∀ x H', (RZ.ItzT K a b).yld i H x H' → g x (wipe σ vs) H' fun σ2 H2 => wipe σ2 vs = wipe σ vs ∧ tt σ2 H2 fun b H3 =>
        if b = true then te σ2 H3 fun y H4 => ∃ acc, H4 D = some (.lst acc) ∧ acc.length < sizeLine ∧ Nx (upd H4 D (.lst (acc ++ [y]))) else Nx H3) := by
  refine ⟨fun i m H => m = n - i ∧ i ≤ n ∧ Pv i H, ⟨n, by simp, Nat.zero_le _, h0⟩, ?_⟩
  rintro i m H ⟨rfl, hi, p⟩
  obtain ⟨qx, qy⟩ := hq i H hi p
  by_cases hlt : i < n
  · have hx : xs[i]? = some xs[i] := List.getElem?_eq_getElem (by omega)
    have hy : ys[i]? = some ys[i] := List.getElem?_eq_getElem (by omega)
    refine .inr ⟨⟨xs, ys, _, _, qx, qy, hx, hy⟩, Pv (i + 1), fun H' p' => ⟨n - (i + 1), by omega, rfl, hlt, p'⟩, fun v H' y => ?_⟩
    obtain ⟨T, x', y', rfl, hT, rfl, f1, f2⟩ := y
    exact hs i x' y' T H hlt (f1 xs qx) (f2 ys qy) p hT
  · have e : i = n := by omega
    subst e
    exact .inl ⟨⟨xs, ys, qx, qy, hl⟩, hd H p⟩
theorem kit_tup {K : PySem.W.Frag} : PySem.W.kitOne K (.type "tuple") (.type "tuple") = some true := by
  unfold PySem.W.kitOne
  rw [if_pos (by decide +kernel)]
theorem all_rep (n : Nat) : (List.replicate n true).all id = true := by
  rw [List.all_eq_true]
  intro x hx
  rw [(List.mem_replicate.mp hx).2]
  rfl
theorem bI_get {b : List Nat} {i : Nat} {x : V} (h : ((bI b).map V.int)[i]? = some x) : ∃ n : Nat, b[i]? = some n ∧ x = .int (n : Int) := by
  rw [List.getElem?_map, List.getElem?_map] at h
  cases q : b[i]? with
  | none =>
    rw [q] at h
    cases h
  | some n =>
    rw [q] at h
    cases h
    exact ⟨n, rfl, rfl⟩
theorem bI_len (b : List Nat) : ((bI b).map V.int).length = b.length := by rw [List.length_map, List.length_map]
theorem meetI {G : Prop} {R : Int → Hp → Prop} (C : Int → Hp → Prop) (main : (∀ c H, C c H → R c H) → G) (rest : ∀ c H, C c H → R c H) : G := main rest
theorem bI_nil {b : List Nat} : bI b = [] ↔ b = [] := List.map_eq_nil_iff
theorem cnt_take (b : List Nat) (j i n : Nat) (h : b[i]? = some n) : (b.take (i + 1)).filter (fun x => decide (j ≤ x)) = (b.take i).filter (fun x => decide (j ≤ x)) ++ if j ≤ n then [n] else [] := by
  rw [List.take_add_one, h, List.filter_append]
  congr 1
  show List.filter _ [n] = _
  by_cases c : j ≤ n
  · rw [List.filter_cons_of_pos (by simpa using c), if_pos c]
    rfl
  · rw [List.filter_cons_of_neg (by simpa using c), if_neg c]
    rfl
theorem ls_snoc (l : List Nat) (n : Nat) : (HO.lst ((bI l).map V.int ++ [V.int (n : Int)])) = ls (bI (l ++ [n])) := by
  show _ = HO.lst ((List.map Int.ofNat (l ++ [n])).map V.int)
  rw [List.map_append, List.map_append]
  rfl
theorem ls_snocI (l : List Int) (n : Int) : (HO.lst (l.map V.int ++ [V.int n])) = ls (l ++ [n]) := by
  show _ = HO.lst ((l ++ [n]).map V.int)
  rw [List.map_append]
  rfl
theorem any_rep (n : Nat) : (List.replicate n false).any id = false := by
  induction n with
  | zero => rfl
  | succ n ih => rw [List.replicate_succ, List.any_cons, ih]; rfl
def lfT (M : Nat) (R : List Nat) : List Nat := (R.filter fun x => decide (x < M)).map fun x => M - x
theorem lf_take (M : Nat) (R : List Nat) (i n : Nat) (h : R[i]? = some n) : lfT M (R.take (i + 1)) = lfT M (R.take i) ++ if n < M then [M - n] else [] := by
  unfold lfT
  rw [List.take_add_one, h, List.filter_append, List.map_append]
  congr 1
  show List.map _ (List.filter _ [n]) = _
  by_cases c : n < M
  · rw [List.filter_cons_of_pos (by simpa using c), if_pos c]
    rfl
  · rw [List.filter_cons_of_neg (by simpa using c), if_neg c]
    rfl
theorem lfT_len (M : Nat) (R : List Nat) : (lfT M R).length ≤ R.length := by
  unfold lfT
  rw [List.length_map]
  exact List.length_filter_le _ _
theorem wd_ints (b : List Nat) (P : Nat) (n : Nat) (h : n = P - b.length) : (bI b).map V.int ++ (List.replicate n (V.int 0) ++ []) = (bI (wd b P)).map V.int := by
  subst h
  unfold wd bI
  rw [List.append_nil, List.map_append, List.map_append, List.map_replicate, List.map_replicate]
  rfl
theorem cat_rows {K : PySem.W.Frag} {a b : Addr} {H : Hp} {xs ys : List Int} {Q : VK} (ha : H a = some (tp xs)) (hb : H b = some (tp ys)) (hl : xs.length + ys.length ≤ 1000) (q : ∀ p H', Same H H' → H' p = some (tp (xs ++ ys)) → Q (.ref p) H') : rCatA K (.ref a) (.ref b) H Q := by
  refine ⟨a, b, _, _, rfl, rfl, SqT.of ha, SqT.of hb, ?_, fun e => ?_, fun _ e => ?_, fun _ _ p hp => ?_⟩
  · rw [List.length_map, List.length_map]
    have : 1000 ≤ sizeLine := by decide
    omega
  · have e := List.map_eq_nil_iff.mp e
    subst e
    exact q b H (fun _ _ e => e) hb
  · have e := List.map_eq_nil_iff.mp e
    subst e
    exact q a H (fun _ _ e => e) (by rw [List.append_nil]; exact ha)
  · refine q p _ (same_upd0 hp) ?_
    rw [upd_same]
    exact congrArg (fun z => some (HO.tup z)) List.map_append.symm
theorem max_head {b : List Nat} {m : Int} (h : Bx b) (h1 : m ∈ (0 : Int) :: bI b) (h2 : ∀ y ∈ (0 : Int) :: bI b, y ≤ m) : m = ((b.headD 0 : Nat) : Int) := by
  have lo : ((b.headD 0 : Nat) : Int) ≤ m := by
    cases b with
    | nil => exact h2 0 (.head _)
    | cons x r => exact h2 (x : Int) (.tail _ (.head _))
  have hi : m ≤ ((b.headD 0 : Nat) : Int) := by
    rcases List.mem_cons.mp h1 with e | e
    · omega
    · obtain ⟨n, hn, rfl⟩ := List.mem_map.mp e
      have := head_max h n hn
      show (n : Int) ≤ _
      omega
  omega
theorem head40 {b : List Nat} (h : Bx b) : b.headD 0 ≤ 40 := by
  cases b with
  | nil => exact Nat.zero_le _
  | cons x r => exact (h.ent x (.head _)).2
/-- tuples of boxes at addresses -/
def RB (H : Hp) : List Addr → List (List Nat) → Prop
  | [], [] => True
  | a :: as, b :: bs => H a = some (tp (bI b)) ∧ RB H as bs
  | _, _ => False
theorem RB.len {H : Hp} : ∀ {as : List Addr} {bs : List (List Nat)}, RB H as bs → as.length = bs.length
  | [], [], _ => rfl
  | a :: as, b :: bs, h => congrArg (· + 1) (RB.len h.2)
theorem RB.same {H H' : Hp} (s : Same H H') : ∀ {as : List Addr} {bs : List (List Nat)}, RB H as bs → RB H' as bs
  | [], [], _ => True.intro
  | a :: as, b :: bs, h => ⟨s _ _ h.1, RB.same s h.2⟩
theorem RB.keep {H H' : Hp} (s : ∀ a (l : List V), H a = some (.tup l) → H' a = some (.tup l)) : ∀ {as : List Addr} {bs : List (List Nat)}, RB H as bs → RB H' as bs
  | [], [], _ => True.intro
  | a :: as, b :: bs, h => ⟨s _ _ h.1, RB.keep s h.2⟩
theorem RB.app {H : Hp} {as' : List Addr} {bs' : List (List Nat)} (g : RB H as' bs') : ∀ {as : List Addr} {bs : List (List Nat)}, RB H as bs → RB H (as ++ as') (bs ++ bs')
  | [], [], _ => g
  | a :: as, b :: bs, h => ⟨h.1, RB.app g h.2⟩
theorem RB.snoc {H : Hp} {as : List Addr} {bs : List (List Nat)} {a : Addr} {b : List Nat} (h : RB H as bs) (k : H a = some (tp (bI b))) : RB H (as ++ [a]) (bs ++ [b]) := RB.app (as' := [a]) (bs' := [b]) ⟨k, True.intro⟩ h
theorem RB.get {H : Hp} : ∀ {as : List Addr} {bs : List (List Nat)} {i : Nat}, RB H as bs → i < bs.length → ∃ a b, as[i]? = some a ∧ bs[i]? = some b ∧ H a = some (tp (bI b))
  | [], [], i, _, hi => absurd hi (Nat.not_lt_zero _)
  | a :: as, b :: bs, 0, h, _ => ⟨a, b, rfl, rfl, h.1⟩
  | a :: as, b :: bs, i + 1, h, hi => RB.get (i := i) h.2 (Nat.lt_of_succ_lt_succ hi)
theorem RB.of {H : Hp} : ∀ (L : List (Addr × List Int)) (bs : List (List Nat)), L.map (·.2) = bs.map bI → (∀ p ∈ L, H p.1 = some (tp p.2)) → RB H (L.map (·.1)) bs
  | [], [], _, _ => True.intro
  | [], _ :: _, e, _ => by cases e
  | _ :: _, [], e, _ => by cases e
  | p :: L, b :: bs, e, h => by
    rw [List.map_cons, List.map_cons] at e
    obtain ⟨e1, e2⟩ := List.cons.inj e
    refine ⟨?_, RB.of L bs e2 fun q hq => h q (.tail _ hq)⟩
    rw [← e1]
    exact h p (.head _)
theorem RB.keys {H : Hp} : ∀ {as : List Addr} {bs : List (List Nat)}, RB H as bs → ∃ ks : List (Addr × List Int), ks.map (·.1) = as ∧ ks.map (·.2) = bs.map bI ∧ ∀ p ∈ ks, H p.1 = some (tp p.2)
  | [], [], _ => ⟨[], rfl, rfl, fun p hp => (nomatch hp)⟩
  | a :: as, b :: bs, h => by
    obtain ⟨ks, e1, e2, e3⟩ := RB.keys h.2
    refine ⟨(a, bI b) :: ks, by rw [List.map_cons, e1], by rw [List.map_cons, e2, List.map_cons], fun p hp => ?_⟩
    rcases List.mem_cons.mp hp with e | e
    · rw [e]
      exact h.1
    · exact e3 p e
def TB (bs : List (List Nat)) : List PyData := bs.map fun b => .tuple ((bI b).map PyData.int)
theorem lay_tb : ∀ ls : List (List Nat), PyData.canLayAll0 (TB ls) = true
  | [] => rfl
  | l :: r => by
    show (PyData.canLay0 (.tuple ((bI l).map PyData.int)) && PyData.canLayAll0 (TB r)) = true
    rw [lay_tb r, show PyData.canLay0 (.tuple ((bI l).map PyData.int)) = PyData.canLayAll0 ((bI l).map PyData.int) from rfl, lay_ints]
    rfl
theorem depth_tb : ∀ ls : List (List Nat), PyData.depthAll (TB ls) ≤ 1
  | [] => Nat.zero_le _
  | l :: r => by
    show max (PyData.depth (.tuple ((bI l).map PyData.int))) (PyData.depthAll (TB r)) ≤ 1
    rw [show PyData.depth (.tuple ((bI l).map PyData.int)) = PyData.depthAll ((bI l).map PyData.int) + 1 from rfl, depth_ints]
    have := depth_tb r
    omega
theorem shaped_tb (ls : List (List Nat)) : SeqAt.shaped (.list (TB ls)) = true := by
  unfold SeqAt.shaped
  rw [show PyData.canLay0 (.list (TB ls)) = PyData.canLayAll0 (TB ls) from rfl, lay_tb]
  rw [show PyData.depth (.list (TB ls)) = PyData.depthAll (TB ls) + 1 from rfl, decide_eq_true (show PyData.depthAll (TB ls) + 1 ≤ 64 by have := depth_tb ls; omega)]
  rfl
theorem dpAll_rb {K : PySem.W.Frag} {H : Hp} : ∀ {as : List Addr} {bs : List (List Nat)}, RB H as bs → DpAll K H (as.map V.ref) (TB bs)
  | [], [], _ => .nil
  | a :: as, b :: bs, h => .cons (.tup (SqT.of h.1) (dpAll_ints _)) (dpAll_rb h.2)
theorem ne_rb {K : PySem.W.Frag} {H : Hp} {t u : Addr} {as bs : List Addr} {l : List (List Nat)} {Q : VK} (h : H t = some (.lst (as.map V.ref))) (r : RB H as l) (h2 : H u = some (.lst (bs.map V.ref))) (r2 : RB H bs l) (q : Q (.bl false) H) : rNeD K (.ref t) (.ref u) H Q :=
  ne_sameD (d := .list (TB l)) (.lst (SqL.of h) (dpAll_rb r)) (.lst (SqL.of h2) (dpAll_rb r2)) (lay_tb _) (shaped_tb _) q
theorem eq_rb {K : PySem.W.Frag} {H : Hp} {t u : Addr} {as bs : List Addr} {l : List (List Nat)} {Q : VK} (h : H t = some (.lst (as.map V.ref))) (r : RB H as l) (h2 : H u = some (.lst (bs.map V.ref))) (r2 : RB H bs l) (q : Q (.bl true) H) : rEqD K (.ref t) (.ref u) H Q :=
  eq_sameD (d := .list (TB l)) (.lst (SqL.of h) (dpAll_rb r)) (.lst (SqL.of h2) (dpAll_rb r2)) (lay_tb _) (shaped_tb _) q
end K27

set_option Elab.async false
set_option linter.all false
set_option maxRecDepth 100000
set_option maxHeartbeats 1000000
/-! walks: boxes judged, turned, left -/
namespace K27
open PySem PySem.Spec PyProof.Rows L2 StX RZ MyR
section
variable {P : Program} {w : World} {K : PySem.W.Frag} {mg : Str → Option Value} {base : Heap}
def spIsBox (K : PySem.W.Frag) : Sp := fun vs H Q _ => ∃ (t : Addr) (b : List Nat), vs = [.ref t] ∧ H t = some (tp (bI b)) ∧ Bx b ∧ ∀ H', Same H H' → Q (.bl true) H'
def spReqBox (K : PySem.W.Frag) : Sp := fun vs H Q _ => ∃ (t : Addr) (b : List Nat), vs = [.ref t] ∧ H t = some (tp (bI b)) ∧ Bx b ∧ ∀ H', Same H H' → Q .non H'
def spTurned (K : PySem.W.Frag) : Sp := fun vs H Q _ => ∃ (t : Addr) (b : List Nat), vs = [.ref t] ∧ H t = some (tp (bI b)) ∧ Bx b ∧ ∀ p H', Same H H' → H' p = some (tp (bI (tn b))) → Q (.ref p) H'
theorem ok_is_box (T : Facts K mg) : FnOk P w K mg base CX0 3 T.f_is_box T.fd_is_box ["value"] (spIsBox K) := by
  have G_is_from := ok_is_from (P := P) (w := w) (base := base) T
  refine T.F_is_box.ok sc_is_box (fun vs H Q E h => ?_) (fun cdv A outer s H vs Q E hr h => ?_)
  · obtain ⟨t, b, rfl, _⟩ := h
    rfl
  · obtain ⟨t, b, rfl, ht, hb, q⟩ := h
    refine ⟨_, (PSs.nox (pss_cons (ps_if (pw_or (pt_not (pt_val (pe_callB call_isi (by rfl) T.z_isinstance (by decide +kernel) (pa_cons (pv 0) (pa_cons (pe_bltn (v := .ty "tuple") (by rfl) T.z_tuple (by decide +kernel) rfl) pa_nil))))) (pw_or1 (pt_cmpR op_gt (pe_callB call_len_seq (by rfl) T.z_len (by decide +kernel) (pa_cons (pv 0) pa_nil)) (pe_glob (v := .int 40) (by rfl) T.c_MAX_PARTS.choose_spec ⟨_, rfl⟩) (nomark _)))).pt
      (pss_one (ps_ret pe_bl))
      pss_nil)
    (pss_cons (ps_if (pt_not (pt_val (pe_callB (cr_all (by rfl)) (by rfl) T.z_all (by decide +kernel) (pa_cons (pe_lc (own := [("member", 1)]) (g := (gName 1)) (tt := tYes) (by rfl) sc_is_box.nd (pi_tup (pv 0)) (blkOk_by (N := N_is_box) (sc := defScope s_is_box) (by decide +kernel)) (fun _ _ _ _ _ => (pg_name (i := 1) sc_is_box.nd rfl (.inl rfl))) (fun _ _ _ _ _ => pts_nil) (fun _ _ _ _ _ => (pe_call G_is_from hr (by rfl) T.g_is_from T.F_is_from.kp T.b_is_from .nil pass0 (pa_cons (pv 1) (pa_cons pe_int (pa_cons (pe_glob (v := .int 40) (by rfl) T.c_MAX_PARTS.choose_spec ⟨_, rfl⟩) pa_nil)))))) pa_nil))))
      (pss_one (ps_ret pe_bl))
      pss_nil)
    (pss_one (ps_ret (pe_callB (cr_all (by rfl)) (by rfl) T.z_all (by decide +kernel) (pa_cons (pe_lc (own := [("one", 2), ("other", 3)]) (g := (gTup K 2 (gCons (gName 2) (gCons (gName 3) gNil)))) (tt := tYes) (by rfl) sc_is_box.nd (pi_zipA (by rfl) T.z_zip (pa_cons (pv 0) (pa_cons (pe_slice sl_tupA (pv 0) (po_some pe_int) po_none) pa_nil))) (blkOk_by (N := N_is_box) (sc := defScope s_is_box) (by decide +kernel)) (fun _ _ _ _ _ => (pg_tup (by rfl) (pgs_cons (pg_name (i := 2) sc_is_box.nd rfl (.inl rfl)) (pgs_cons (pg_name (i := 3) sc_is_box.nd rfl (.inl rfl)) pgs_nil)))) (fun _ _ _ _ _ => pts_nil) (fun _ _ _ _ _ => (pe_cmpR op_ge (pv 2) (pv 3) (nomark _)))) pa_nil))))))), ?_⟩
    have lb : ((bI b).map V.int).length = b.length := bI_len b
    refine ⟨_, rfl, .ref t, .ty "tuple", .type "tuple", .type "tuple", true, rfl, .ty "tuple", .base (.tup ht), kit_tup, true, rfl, iteF ⟨_, rfl, t, _, rfl, .inr (SqT.of ht), _, _, rfl, rfl, _, rfl, ?_⟩⟩
    rw [lb, decide_eq_false (by have := hb.len; omega)]
    refine iteF ⟨_, rfl, t, rfl, ⟨_, SqT.of ht⟩, fun D hD => lc_tup (xs := (bI b).map V.int) (fun i H' => H' = upd H D (.lst (List.replicate i (V.bl true)))) rfl (fun i H' hi hP => ?_) (fun i x H' hi hP => ?_) (fun H' hP => ?_)⟩
    · rw [hP]
      exact SqT.of (same_upd0 hD _ _ ht)
    · subst hP
      obtain ⟨n, hn, rfl⟩ := bI_get hi
      have hlt : i < b.length := (List.getElem?_eq_some_iff.mp hn).1
      obtain ⟨n1, n2⟩ := hb.ent n (List.mem_of_getElem? hn)
      have := hb.len
      refine ⟨rfl, ⟨_, rfl, n, 1, 40, rfl, by omega, by omega, _, upd_same, ?_, ?_⟩⟩
      · rw [List.length_replicate]
        exact small1000 (by omega)
      · rw [upd_upd, List.replicate_succ']
    · subst hP
      rw [lb]
      refine ⟨D, List.replicate b.length true, rfl, SqL.of (by rw [upd_same, List.map_replicate]), ?_⟩
      rw [all_rep]
      have sD := same_upd0 (o := .lst ((List.replicate b.length true).map V.bl)) hD
      rw [List.map_replicate] at sD
      obtain ⟨H1, e1⟩ : ∃ H1, H1 = upd H D (.lst (List.replicate b.length (V.bl true))) := ⟨_, rfl⟩
      rw [← e1] at sD ⊢
      have h1 := sD _ _ ht
      refine ⟨_, rfl, iteF ⟨_, rfl, _, rfl, _, rfl, ?_⟩⟩
      dsimp only [tNoPart]
      refine drop_row (i := 1) h1 rfl fun p H2 s2 e2 => ⟨t, p, _, _, rfl, .inr ⟨SqT.of (s2 _ _ h1), SqT.of e2, fun D2 hD2 => ?_⟩⟩
      have h2 := s2 _ _ h1
      have l2 : (((bI b).drop 1).map V.int).length = b.length - 1 := by rw [List.length_map, List.length_drop, List.length_map]
      refine lc_zipU (xs := (bI b).map V.int) (ys := ((bI b).drop 1).map V.int) (b.length - 1) (by rw [lb]; omega) (by rw [l2]; exact Nat.le_refl _) (.inr (by rw [l2]; exact Nat.le_refl _)) (fun i H' => Same H2 H' ∧ H' D2 = some (.lst (List.replicate i (V.bl true)))) ⟨same_upd0 hD2, upd_same⟩ (fun i H' _ hP => ⟨SqT.of (hP.1 _ _ h2), SqT.of (hP.1 _ _ e2)⟩) (fun i x y B H3 hi hx hy hP hB => ?_) (fun H3 hP => ?_)
      · obtain ⟨sH, hL⟩ := hP
        obtain ⟨n, hn, rfl⟩ := bI_get hx
        have hy' : ((bI (b.drop 1)).map V.int)[i]? = some y := by
          rw [← hy]
          show ((List.map Int.ofNat (b.drop 1)).map V.int)[i]? = _
          rw [List.map_drop]
        obtain ⟨k, hk, rfl⟩ := bI_get hy'
        rw [List.getElem?_drop] at hk
        have kn : k ≤ n := by
          obtain ⟨g1, e1⟩ := List.getElem?_eq_some_iff.mp hn
          obtain ⟨g2, e2⟩ := List.getElem?_eq_some_iff.mp hk
          rw [← e1, ← e2]
          exact List.pairwise_iff_getElem.mp hb.srt i (1 + i) g1 g2 (by omega)
        refine gen_upd H3 B _ hB fun H8 s8 f8 => ⟨B, _, rfl, SqT.of f8, rfl, _, _, rfl, _, _, rfl, rfl, rfl, ?_⟩
        refine ⟨_, rfl, _, rfl, _, _, rfl, rfl, _, s8 _ _ hL, by rw [List.length_replicate]; exact small1000 (by have := hb.len; omega), fun a o e => ?_, ?_⟩
        · rw [upd_ne (ne_of_none e hD2)]
          exact s8 _ _ (sH _ _ e)
        · rw [upd_same]
          show some (HO.lst (List.replicate i (V.bl true) ++ [V.bl (decide ((k : Int) ≤ (n : Int)))])) = _
          rw [decide_eq_true (show (k : Int) ≤ (n : Int) by omega), List.replicate_succ']
      · obtain ⟨sH, hL⟩ := hP
        refine ⟨D2, List.replicate (b.length - 1) true, rfl, SqL.of (by rw [hL, List.map_replicate]), ?_⟩
        rw [all_rep]
        exact q H3 (sD.trans (s2.trans sH))
theorem ok_require_box (T : Facts K mg) : FnOk P w K mg base CX0 4 T.f_require_box T.fd_require_box ["value"] (spReqBox K) := by
  have G_is_box := ok_is_box (P := P) (w := w) (base := base) T
  refine T.F_require_box.ok sc_require_box (fun vs H Q E h => ?_) (fun cdv A outer s H vs Q E hr h => ?_)
  · obtain ⟨t, b, rfl, _⟩ := h
    rfl
  · obtain ⟨t, b, rfl, ht, hb, q⟩ := h
    refine ⟨_, (PSs.nox (pss_one (ps_if (pt_not (pt_val (pe_call G_is_box hr (by rfl) T.g_is_box T.F_is_box.kp T.b_is_box .nil pass0 (pa_cons (pv 0) pa_nil))))
      (pss_one ps_never)
      pss_nil))), ?_⟩
    exact ⟨_, rfl, t, b, rfl, ht, hb, fun H1 s1 => ⟨_, rfl, iteF (q H1 s1)⟩⟩
theorem ok_turned_box (T : Facts K mg) : FnOk P w K mg base CX0 5 T.f_turned_box T.fd_turned_box ["box"] (spTurned K) := by
  have G_require_box := ok_require_box (P := P) (w := w) (base := base) T
  refine T.F_turned_box.ok sc_turned_box (fun vs H Q E h => ?_) (fun cdv A outer s H vs Q E hr h => ?_)
  · obtain ⟨t, b, rfl, _⟩ := h
    rfl
  · obtain ⟨t, b, rfl, ht, hb, q⟩ := h
    refine ⟨_, (PSs.nox (pss_cons (ps_expr (pe_call G_require_box hr (by rfl) T.g_require_box T.F_require_box.kp T.b_require_box .nil pass0 (pa_cons (pv 0) pa_nil)))
    (pss_cons (ps_set (i := 1) sc_turned_box.nd rfl (.inl rfl) (pe_ifExp (pt_cmpR (op_neD (hu64 hr)) (pv 0) (pe_tup pa_nil) (nomark _)) (pe_ix ix_tup (pv 0) pe_int (fun _ _ => rfl)) pe_int))
    (pss_one (ps_ret (pe_tupleOf (by rfl) T.z_tuple (pe_lc (own := [("least", 3)]) (g := (gName 3)) (tt := tYes) (by rfl) sc_turned_box.nd (pi_range2 (by rfl) T.z_range (pa_cons pe_int (pa_cons (pe_op op_add (pv 1) pe_int) pa_nil))) (blkOk_by (N := N_turned_box) (sc := defScope s_turned_box) (by decide +kernel)) (fun _ _ _ _ _ => (pg_name (i := 3) sc_turned_box.nd rfl (.inr rfl))) (fun _ _ _ _ _ => pts_nil) (fun _ _ _ _ _ => (pe_callB (call_len_seq : CallR _ _ (Evl.rLenS K)) (by rfl) T.z_len (by decide +kernel) (pa_cons (pe_lc (own := [("member", 2)]) (g := (gName 2)) (by rfl) sc_turned_box.nd (pi_tup (pv 0) : PI _ _ _ (iTup K _)) (blkOk_by (N := N_turned_box) (sc := relS _ (defScope s_turned_box)) (by decide +kernel)) (fun _ _ _ _ _ => (pg_name (i := 2) sc_turned_box.nd rfl (.inl rfl))) (fun _ _ _ _ _ => (pts_one (pt_cmpR op_ge (pv 2) (pv 3) (nomark _)))) (fun _ _ _ _ _ => (pv 2))) pa_nil)))))))))), ?_⟩
    refine ⟨_, rfl, t, b, rfl, ht, hb, fun H1 s1 => ?_⟩
    have h1 := s1 _ _ ht
    apply meetI fun c H2 => c = ((b.headD 0 : Nat) : Int) ∧ Same H H2
    · intro k
      refine ⟨_, rfl, (show 0 ≤ sizeLine from Nat.zero_le _), fun z nz => gen_upd H1 z (tp []) nz fun H2 s2 e2 => ne_ints (SqT.of (s2 _ _ h1)) (SqT.of e2) ⟨_, rfl, ?_⟩⟩
      have cs := Classical.em (b ≠ [])
      obtain ⟨g, hg⟩ : ∃ g : Int, g = ((b.headD 0 : Nat) : Int) := ⟨_, rfl⟩
      refine Or.elim cs (fun c => ?_) fun c => ?_
      · rw [decide_eq_false (fun z => c (bI_nil.mp z))]
        have e : ((bI b).map V.int)[0]? = some (V.int g) := by
          rw [hg]
          cases b with
          | nil => exact absurd rfl c
          | cons x r => rfl
        exact iteT ⟨_, rfl, t, _, 0, .int g, rfl, rfl, SqT.of (s2 _ _ h1), atI_nat (j := 0) e, k g H2 ⟨hg, s1.trans s2⟩⟩
      · rw [decide_eq_true (bI_nil.mpr (Classical.not_not.mp c))]
        exact iteF (k 0 H2 ⟨by rw [Classical.not_not.mp c]; rfl, s1.trans s2⟩)
    rintro c H2 ⟨rfl, s2⟩
    have h2 := s2 _ _ ht
    have g40 : b.headD 0 ≤ 40 := by
      cases b with
      | nil => exact Nat.zero_le _
      | cons x r => exact (hb.ent x (.head _)).2
    refine ⟨_, rfl, _, _, rfl, rfl, 1, ((b.headD 0 : Nat) : Int) + 1, rfl, ⟨by decide, by decide, by omega, by omega⟩, fun D hD => ?_⟩
    have en : (((b.headD 0 : Nat) : Int) + 1 - 1).toNat = b.headD 0 := by omega
    rw [en]
    refine lc_range (n := b.headD 0) (fun i H' => Same H2 H' ∧ H' D = some (.lst (((List.range i).map fun j => ((cnt b (j + 1) : Nat) : Int)).map V.int))) ⟨same_upd0 hD, upd_same⟩ (fun i H' hi hP => ?_) (fun H' hP => ?_)
    · obtain ⟨sH, hL⟩ := hP
      have h3 := sH _ _ h2
      refine ⟨rfl, _, rfl, t, rfl, ⟨_, SqT.of h3⟩, fun D2 hD2 => lc_tup (xs := (bI b).map V.int) (fun j H3 => Same H' H3 ∧ H3 D2 = some (ls (bI ((b.take j).filter fun x => decide (i + 1 ≤ x))))) ⟨same_upd0 hD2, upd_same⟩ (fun j H3 _ hP => SqT.of (hP.1 _ _ h3)) (fun j x H3 hx hP => ?_) (fun H3 hP => ?_)⟩
      · obtain ⟨s3, l3⟩ := hP
        obtain ⟨n, hn, rfl⟩ := bI_get hx
        have ct := cnt_take b (i + 1) j n hn
        refine ⟨rfl, _, rfl, _, rfl, _, _, rfl, rfl, _, rfl, ?_⟩
        by_cases c : i + 1 ≤ n
        · rw [decide_eq_true (show (1 : Int) + (i : Int) ≤ (n : Int) by omega)]
          rw [if_pos c] at ct
          refine iteT ⟨_, rfl, _, l3, ?_, fun a o e => ?_, ?_⟩
          · rw [List.length_map, List.length_map]
            have := List.length_filter_le (fun x => decide (i + 1 ≤ x)) (b.take j)
            have := List.length_take_le j b
            have := hb.len
            exact small1000 (by rw [List.length_take] at *; omega)
          · rw [upd_ne (ne_of_none e hD2)]
            exact s3 _ _ e
          · rw [upd_same, ct, ls_snoc]
        · rw [decide_eq_false (show ¬ (1 : Int) + (i : Int) ≤ (n : Int) by omega)]
          rw [if_neg c, List.append_nil] at ct
          exact iteF ⟨s3, by rw [ct]; exact l3⟩
      · obtain ⟨s3, l3⟩ := hP
        rw [bI_len, List.take_length] at l3
        refine ⟨D2, _, rfl, .inl (SqL.of l3), _, s3 _ _ hL, ?_, fun a o e => ?_, ?_⟩
        · rw [List.length_map, List.length_map, List.length_range]
          exact small1000 (by omega)
        · rw [upd_ne (ne_of_none e hD)]
          exact s3 _ _ (sH _ _ e)
        · rw [upd_same, List.range_succ, List.map_append, bI_len, ls_snocI]
          rfl
    · obtain ⟨sH, hL⟩ := hP
      refine .inl ⟨D, _, rfl, SqL.of hL, fun p np => ?_⟩
      refine gen_upd H' p (tp _) np fun H4 s4 e4 => q p H4 (s2.trans (sH.trans s4)) ?_
      rw [e4]
      unfold tn bI
      rw [List.map_map]
      rfl
def spLeftB : Sp := fun vs H Q _ => ∃ (t : Addr) (b : List Nat) (P M : Nat), vs = [.ref t, .int P, .int M] ∧ H t = some (tp (bI b)) ∧ Bx b ∧ b.length ≤ P ∧ P ≤ 40 ∧ M ≤ 40 ∧ (∀ x ∈ b, x ≤ M) ∧ ∀ p H', Same H H' → H' p = some (tp (bI (lf b P M))) → Q (.ref p) H'
theorem ok_left_box (T : Facts K mg) : FnOk P w K mg base CX0 5 T.f_left_box T.fd_left_box ["box", "parts", "most"] spLeftB := by
  have G_require_box := ok_require_box (P := P) (w := w) (base := base) T
  have G_require_part := ok_require_part (P := P) (w := w) (base := base) T
  refine T.F_left_box.ok sc_left_box (fun vs H Q E h => ?_) (fun cdv A outer s H vs Q E hr h => ?_)
  · obtain ⟨t, b, P, M, rfl, _⟩ := h
    rfl
  · obtain ⟨t, b, P, M, rfl, ht, hb, bP, P40, M40, hM, q⟩ := h
    refine ⟨_, (PSs.nox (pss_cons (ps_expr (pe_call G_require_box hr (by rfl) T.g_require_box T.F_require_box.kp T.b_require_box .nil pass0 (pa_cons (pv 0) pa_nil)))
    (pss_cons (ps_expr (pe_call G_require_part (hr.mono (by decide)) (by rfl) T.g_require_part T.F_require_part.kp T.b_require_part .nil pass0 (pa_cons (pv 1) pa_nil)))
    (pss_cons (ps_expr (pe_call G_require_part (hr.mono (by decide)) (by rfl) T.g_require_part T.F_require_part.kp T.b_require_part .nil pass0 (pa_cons (pv 2) pa_nil)))
    (pss_cons (ps_if (pw_or (pt_cmpR op_gt (pe_callB call_len_seq (by rfl) T.z_len (by decide +kernel) (pa_cons (pv 0) pa_nil)) (pv 1) (nomark _)) (pw_or1 (pt_val (pe_callB (cr_any (by rfl)) (by rfl) T.z_any (by decide +kernel) (pa_cons (pe_lc (own := [("member", 3)]) (g := (gName 3)) (tt := tYes) (by rfl) sc_left_box.nd (pi_tup (pv 0)) (blkOk_by (N := N_left_box) (sc := defScope s_left_box) (by decide +kernel)) (fun _ _ _ _ _ => (pg_name (i := 3) sc_left_box.nd rfl (.inl rfl))) (fun _ _ _ _ _ => pts_nil) (fun _ _ _ _ _ => (pe_cmpR op_gt (pv 3) (pv 2) (nomark _)))) pa_nil))))).pt
      (pss_one ps_never)
      pss_nil)
    (pss_cons (ps_set (i := 4) sc_left_box.nd rfl (.inl rfl) (pe_lst (pa_star (pv 0) (pa_star (pe_lc (own := [("place", 5)]) (g := (gName 5)) (tt := tYes) (by rfl) sc_left_box.nd (pi_range1 (by rfl) T.z_range (pa_cons (pe_op op_sub (pv 1) (pe_callB call_len_seq (by rfl) T.z_len (by decide +kernel) (pa_cons (pv 0) pa_nil))) pa_nil)) (blkOk_by (N := N_left_box) (sc := defScope s_left_box) (by decide +kernel)) (fun _ _ _ _ _ => (pg_name (i := 5) sc_left_box.nd rfl (.inl rfl))) (fun _ _ _ _ _ => pts_nil) (fun _ _ _ _ _ => pe_int)) pa_nil))))
    (pss_one (ps_ret (pe_tupleOf (by rfl) T.z_tuple (pe_lc (own := [("member", 3)]) (g := (gName 3)) (by rfl) sc_left_box.nd (pi_list (pe_revL (pv 4))) (blkOk_by (N := N_left_box) (sc := defScope s_left_box) (by decide +kernel)) (fun _ _ _ _ _ => (pg_name (i := 3) sc_left_box.nd rfl (.inl rfl))) (fun _ _ _ _ _ => (pts_one (pt_cmpR op_lt (pv 3) (pv 2) (nomark _)))) (fun _ _ _ _ _ => (pe_op op_sub (pv 2) (pv 3))))))))))))), ?_⟩
    refine ⟨_, rfl, t, b, rfl, ht, hb, fun H1 s1 => ⟨_, rfl, P, rfl, by omega, by omega, ⟨_, rfl, M, rfl, by omega, by omega, ?_⟩⟩⟩
    have h1 := s1 _ _ ht
    have lb := bI_len b
    have bl := hb.len
    refine ⟨_, rfl, t, _, rfl, .inr (SqT.of h1), _, rfl, _, _, rfl, rfl, _, rfl, ?_⟩
    rw [lb, decide_eq_false (by omega)]
    refine iteF ⟨_, rfl, t, rfl, ⟨_, SqT.of h1⟩, fun D hD => lc_tup (xs := (bI b).map V.int) (fun i H' => Same H1 H' ∧ H' D = some (.lst (List.replicate i (V.bl false)))) ⟨same_upd0 hD, upd_same⟩ (fun i H' hi hP => SqT.of (hP.1 _ _ h1)) (fun i x H' hi hP => ?_) (fun H2 hP => ?_)⟩
    · obtain ⟨sH, hL⟩ := hP
      obtain ⟨n, hn, rfl⟩ := bI_get hi
      have hlt : i < b.length := (List.getElem?_eq_some_iff.mp hn).1
      have nM := hM n (List.mem_of_getElem? hn)
      refine ⟨rfl, _, rfl, _, rfl, _, _, rfl, rfl, _, hL, by rw [List.length_replicate]; exact small1000 (by omega), fun a o e => ?_, ?_⟩
      · rw [upd_ne (ne_of_none e hD)]
        exact sH _ _ e
      · rw [upd_same]
        show some (HO.lst (List.replicate i (V.bl false) ++ [V.bl (decide ((M : Int) < (n : Int)))])) = _
        rw [decide_eq_false (by omega), List.replicate_succ']
    · obtain ⟨s2, l2⟩ := hP
      rw [lb] at l2
      refine ⟨D, List.replicate b.length false, rfl, SqL.of (by rw [l2, List.map_replicate]), ?_⟩
      rw [any_rep]
      have h2 := s2 _ _ h1
      refine ⟨_, rfl, iteF ⟨_, rfl, t, _, rfl, .inl (SqT.of h2), ?_⟩⟩
      refine ⟨_, rfl, _, rfl, t, _, rfl, .inr (SqT.of h2), _, _, rfl, rfl, _, rfl, by omega, by omega, fun D2 hD2 => ?_⟩
      rw [lb]
      have ez : (((P : Int) - (b.length : Int))).toNat = P - b.length := by omega
      rw [ez]
      refine lc_range (n := P - b.length) (fun j H' => Same H2 H' ∧ H' D2 = some (.lst (List.replicate j (V.int 0)))) ⟨same_upd0 hD2, upd_same⟩ (fun j H' hj hP => ?_) (fun H3 hP => ?_)
      · obtain ⟨sH, hL⟩ := hP
        refine ⟨rfl, _, hL, by rw [List.length_replicate]; exact small1000 (by omega), fun a o e => ?_, ?_⟩
        · rw [upd_ne (ne_of_none e hD2)]
          exact sH _ _ e
        · rw [upd_same, List.replicate_succ']
      · obtain ⟨s3, l3⟩ := hP
        refine ⟨D2, _, rfl, .inr (SqL.of l3), ?_⟩
        dsimp only [tNil]
        rw [wd_ints b P _ rfl]
        have wl := wd_len bP
        refine ⟨by rw [bI_len, wl, sizeLine_eq]; omega, fun W nW => gen_upd H3 W (.lst ((bI (wd b P)).map V.int)) nW fun H4 s4 e4 => ?_⟩
        refine ⟨_, rfl, W, _, rfl, SqL.of e4, fun p np => gen_upd H4 p (.lst ((bI (wd b P)).map V.int).reverse) np fun H5 s5 e5 => ?_⟩
        have er : ((bI (wd b P)).map V.int).reverse = (bI (wd b P).reverse).map V.int := by
          unfold bI
          rw [List.map_reverse, List.map_reverse]
        rw [er] at e5
        have lR : ((bI (wd b P).reverse).map V.int).length = P := by rw [bI_len, List.length_reverse, wl]
        refine ⟨p, rfl, ⟨_, SqL.of e5⟩, fun D3 hD3 => lc_list (xs := (bI (wd b P).reverse).map V.int) (fun j H' => Same H5 H' ∧ H' D3 = some (ls (bI (lfT M ((wd b P).reverse.take j))))) ⟨same_upd0 hD3, upd_same⟩ (fun j H' _ hP => SqL.of (hP.1 _ _ e5)) (fun j x H' hx hP => ?_) (fun H6 hP => ?_)⟩
        · obtain ⟨sH, hL⟩ := hP
          obtain ⟨n, hn, rfl⟩ := bI_get hx
          have ct := lf_take M (wd b P).reverse j n hn
          refine ⟨rfl, _, rfl, _, rfl, _, _, rfl, rfl, _, rfl, ?_⟩
          by_cases c : n < M
          · rw [decide_eq_true (show (n : Int) < (M : Int) by omega)]
            rw [if_pos c] at ct
            refine iteT ⟨_, rfl, _, rfl, _, _, rfl, rfl, _, hL, ?_, fun a o e => ?_, ?_⟩
            · rw [bI_len]
              have := lfT_len M ((wd b P).reverse.take j)
              rw [List.length_take, List.length_reverse, wl] at this
              exact small1000 (by omega)
            · rw [upd_ne (ne_of_none e hD3)]
              exact sH _ _ e
            · rw [upd_same, ct, ← ls_snoc, show (((M - n : Nat)) : Int) = (M : Int) - (n : Int) by omega]
          · rw [decide_eq_false (show ¬ (n : Int) < (M : Int) by omega)]
            rw [if_neg c, List.append_nil] at ct
            exact iteF ⟨sH, by rw [ct]; exact hL⟩
        · obtain ⟨s6, l6⟩ := hP
          rw [lR, List.take_of_length_le (by rw [List.length_reverse, wl]; exact Nat.le_refl _)] at l6
          refine .inl ⟨D3, _, rfl, SqL.of l6, fun p2 np2 => gen_upd H6 p2 _ np2 fun H7 s7 e7 => q p2 H7 ?_ e7⟩
          exact s1.trans (s2.trans (s3.trans (s4.trans (s5.trans (s6.trans s7)))))
end
end K27

set_option Elab.async false
set_option linter.all false
set_option maxRecDepth 100000
set_option maxHeartbeats 1000000
/-! the law's boxes, turned -/
namespace K27
open PySem PySem.Spec PyProof.Rows L2 StX RZ MyR
section
variable {P : Program} {w : World} {K : PySem.W.Frag} {mg : Str → Option Value} {base : Heap}
def spLTurned (K : PySem.W.Frag) : Sp := fun vs H Q _ => ∃ (t : Addr) (b : List Nat), vs = [.ref t] ∧ H t = some (tp (bI b)) ∧ Bx b ∧ ∀ p H', Same H H' → H' p = some (tp (bI (tn b))) → Q (.ref p) H'
theorem ok_law_turned (T : Facts K mg) : FnOk P w K mg base CX0 1 T.f_law_turned T.fd_law_turned ["_law_box_here"] (spLTurned K) := by
  refine T.F_law_turned.ok sc_law_turned (fun vs H Q E h => ?_) (fun cdv A outer s H vs Q E hr h => ?_)
  · obtain ⟨t, b, rfl, _⟩ := h
    rfl
  · obtain ⟨t, b, rfl, ht, hb, q⟩ := h
    refine ⟨_, (PSs.nox (pss_one (ps_ret (pe_tupleOf (by rfl) T.z_tuple (pe_lc (own := [("_law_row", 2)]) (g := (gName 2)) (tt := tYes) (by rfl) sc_law_turned.nd (pi_range2 (by rfl) T.z_range (pa_cons pe_int (pa_cons (pe_op op_add (pe_callB (MaxT.cr_maxT (by rfl)) (by rfl) T.z_max (by decide +kernel) (pa_cons (pe_op op_catA (pe_tup (pa_cons pe_int pa_nil)) (pv 0)) pa_nil)) pe_int) pa_nil))) (blkOk_by (N := N_law_turned) (sc := defScope s_law_turned) (by decide +kernel)) (fun _ _ _ _ _ => (pg_name (i := 2) sc_law_turned.nd rfl (.inr rfl))) (fun _ _ _ _ _ => pts_nil) (fun _ _ _ _ _ => (pe_callB (call_len_seq : CallR _ _ (Evl.rLenS K)) (by rfl) T.z_len (by decide +kernel) (pa_cons (pe_lc (own := [("_law_value", 1)]) (g := (gName 1)) (by rfl) sc_law_turned.nd (pi_tup (pv 0) : PI _ _ _ (iTup K _)) (blkOk_by (N := N_law_turned) (sc := relS _ (defScope s_law_turned)) (by decide +kernel)) (fun _ _ _ _ _ => (pg_name (i := 1) sc_law_turned.nd rfl (.inl rfl))) (fun _ _ _ _ _ => (pts_one (pt_cmpR op_ge (pv 1) (pv 2) (nomark _)))) (fun _ _ _ _ _ => (pv 1))) pa_nil)))))))), ?_⟩
    refine ⟨sz1, fun z nz => gen_upd H z (tp [0]) nz fun H1 s1 e1 => ⟨_, rfl, cat_rows e1 (s1 _ _ ht) (by rw [List.length_map]; have := hb.len; show 1 + b.length ≤ 1000; omega) fun p0 H2 s2' e2 => ?_⟩⟩
    have s2 := s1.trans s2'
    have h2 := s2 _ _ ht
    refine ⟨p0, _, rfl, SqT.of e2, by show 0 < (0 :: bI b).length; exact Nat.succ_pos _, fun m m1 m2 => ?_⟩
    have hm := max_head hb m1 m2
    have g40 := head40 hb
    refine ⟨_, _, rfl, rfl, 1, m + 1, rfl, ⟨by decide, by decide, by omega, by omega⟩, fun D hD => ?_⟩
    have en : (m + 1 - 1).toNat = b.headD 0 := by omega
    rw [en]
    refine lc_range (n := b.headD 0) (fun i H' => Same H2 H' ∧ H' D = some (.lst (((List.range i).map fun j => ((cnt b (j + 1) : Nat) : Int)).map V.int))) ⟨same_upd0 hD, upd_same⟩ (fun i H' hi hP => ?_) (fun H' hP => ?_)
    · obtain ⟨sH, hL⟩ := hP
      have h3 := sH _ _ h2
      refine ⟨rfl, _, rfl, t, rfl, ⟨_, SqT.of h3⟩, fun D2 hD2 => lc_tup (xs := (bI b).map V.int) (fun j H3 => Same H' H3 ∧ H3 D2 = some (ls (bI ((b.take j).filter fun x => decide (i + 1 ≤ x))))) ⟨same_upd0 hD2, upd_same⟩ (fun j H3 _ hP => SqT.of (hP.1 _ _ h3)) (fun j x H3 hx hP => ?_) (fun H3 hP => ?_)⟩
      · obtain ⟨s3, l3⟩ := hP
        obtain ⟨n, hn, rfl⟩ := bI_get hx
        have ct := cnt_take b (i + 1) j n hn
        refine ⟨rfl, _, rfl, _, rfl, _, _, rfl, rfl, _, rfl, ?_⟩
        by_cases c : i + 1 ≤ n
        · rw [decide_eq_true (show (1 : Int) + (i : Int) ≤ (n : Int) by omega)]
          rw [if_pos c] at ct
          refine iteT ⟨_, rfl, _, l3, ?_, fun a o e => ?_, ?_⟩
          · rw [List.length_map, List.length_map]
            have := List.length_filter_le (fun x => decide (i + 1 ≤ x)) (b.take j)
            have := List.length_take_le j b
            have := hb.len
            exact small1000 (by rw [List.length_take] at *; omega)
          · rw [upd_ne (ne_of_none e hD2)]
            exact s3 _ _ e
          · rw [upd_same, ct, ls_snoc]
        · rw [decide_eq_false (show ¬ (1 : Int) + (i : Int) ≤ (n : Int) by omega)]
          rw [if_neg c, List.append_nil] at ct
          exact iteF ⟨s3, by rw [ct]; exact l3⟩
      · obtain ⟨s3, l3⟩ := hP
        rw [bI_len, List.take_length] at l3
        refine ⟨D2, _, rfl, .inl (SqL.of l3), _, s3 _ _ hL, ?_, fun a o e => ?_, ?_⟩
        · rw [List.length_map, List.length_map, List.length_range]
          exact small1000 (by omega)
        · rw [upd_ne (ne_of_none e hD)]
          exact s3 _ _ (sH _ _ e)
        · rw [upd_same, List.range_succ, List.map_append, bI_len, ls_snocI]
          rfl
    · obtain ⟨sH, hL⟩ := hP
      refine .inl ⟨D, _, rfl, SqL.of hL, fun p np => ?_⟩
      refine gen_upd H' p (tp _) np fun H4 s4 e4 => q p H4 (s2.trans (sH.trans s4)) ?_
      rw [e4]
      unfold tn bI
      rw [List.map_map]
      rfl
end
end K27

set_option Elab.async false
set_option linter.all false
set_option maxRecDepth 100000
set_option maxHeartbeats 1000000
/-! drawn boxes -/
namespace K27
open PySem PySem.Spec PyProof.Rows L2 StX RZ MyR
theorem bx_nil : Bx [] := ⟨Nat.zero_le _, fun x hx => (nomatch hx), List.Pairwise.nil⟩
section
variable {P : Program} {w : World} {K : PySem.W.Frag} {mg : Str → Option Value} {base : Heap}
def spLBox : Sp := fun vs H Q _ => ∃ d : Addr, vs = [.ref d] ∧ Dc H d ∧ ∀ p b H', Sx d H H' → Dc H' d → H' p = some (tp (bI b)) → Bx b → Q (.ref p) H'
theorem ok_law_box (T : Facts K mg) : FnOk P w K mg base CX0 3 T.f_law_box T.fd_law_box ["_law_dice_here"] spLBox := by
  have G_law_roll : FnOk P w K mg base CX0 1 T.f_law_roll T.fd_law_roll ["_law_dice_here", "_law_total"] spRoll2 := (ok_law_roll T).imp roll2
  have G_law_pick : FnOk P w K mg base CX0 2 T.f_law_pick T.fd_law_pick ["_law_dice_here", "_law_items"] spPick2 := (ok_law_pick T).imp pick2
  refine T.F_law_box.ok sc_law_box (fun vs H Q E h => ?_) (fun cdv A outer s H vs Q E hr h => ?_)
  · obtain ⟨d, rfl, _⟩ := h
    rfl
  · obtain ⟨d, rfl, D0, fin⟩ := h
    refine ⟨_, (PSs.nox (pss_cons (ps_par (i := 1) (j := 2) (by rfl) sc_law_box.nd rfl rfl (by decide) rfl rfl (pa_cons (pe_call G_law_roll (hr.mono (by decide)) (by rfl) T.g_law_roll T.F_law_roll.kp T.b_law_roll .nil pass0 (pa_cons (pv 0) (pa_cons pe_int pa_nil))) (pa_cons (pe_lst pa_nil) pa_nil)) (by rfl))
    (pss_cons (ps_for PassesOwn.never (by rfl) (pi_range1 (by rfl) T.z_range (pa_cons (pe_call G_law_pick hr (by rfl) T.g_law_pick T.F_law_pick.kp T.b_law_pick .nil pass0 (pa_cons (pv 0) (pa_cons (pe_lst (pa_cons (pe_call G_law_roll (hr.mono (by decide)) (by rfl) T.g_law_roll T.F_law_roll.kp T.b_law_roll .nil pass0 (pa_cons (pv 0) (pa_cons pe_int pa_nil))) (pa_cons (pe_call G_law_roll (hr.mono (by decide)) (by rfl) T.g_law_roll T.F_law_roll.kp T.b_law_roll .nil pass0 (pa_cons (pv 0) (pa_cons pe_int pa_nil))) pa_nil))) pa_nil))) pa_nil)) (pg_name (i := 3) sc_law_box.nd rfl (.inl rfl))
      (pss_cons (ps_set (i := 1) sc_law_box.nd rfl (.inl rfl) (pe_call G_law_roll (hr.mono (by decide)) (by rfl) T.g_law_roll T.F_law_roll.kp T.b_law_roll .nil pass0 (pa_cons (pv 0) (pa_cons (pe_op op_add (pv 1) pe_int) pa_nil))))
      (pss_one (ps_set (i := 2) sc_law_box.nd rfl (.inl rfl) (pe_op op_cat (pv 2) (pe_op op_rep (pe_lst (pa_cons (pv 1) pa_nil)) (pe_callTy call_int1 (by rfl) T.z_int (by decide +kernel) (pa_cons (pe_cmpR op_gt (pv 1) pe_int (nomark _)) pa_nil))))))))
    (pss_one (ps_ret (pe_tupleOf (by rfl) T.z_tuple (pv 2))))))), ?_⟩
    refine ⟨_, rfl, d, 41, rfl, D0, by decide, by decide, fun h0 H1 hh0 s1 d1 => ⟨(show 0 ≤ sizeLine from Nat.zero_le _), fun F nF => gen_upd H1 F (.lst []) nF fun H2 s2 e2 => ⟨_, _, rfl, ?_⟩⟩⟩
    have d2 := d1.same s2
    have nFd : F ≠ d := d1.ne nF
    refine ⟨_, rfl, _, rfl, d, 6, rfl, d2, by decide, by decide, fun r1 H3 hr1 s3 d3 => ⟨_, rfl, d, 41, rfl, d3, by decide, by decide, fun r2 H4 hr2 s4 d4 => ⟨sz2, fun L nL => gen_upd H4 L (.lst [.int (r1 : Int), .int (r2 : Int)]) nL fun H5 s5 e5 => ?_⟩⟩⟩
    have d5 := d4.same s5
    refine ⟨d, L, _, rfl, d5, e5, d4.ne nL, by show 0 < 2; decide, by show 2 < 1000; decide, fun v H6 hv s6 d6 => ?_⟩
    obtain ⟨n, rfl, n40⟩ : ∃ n : Nat, v = .int (n : Int) ∧ n ≤ 40 := by
      simp only [List.mem_cons, List.not_mem_nil, or_false] at hv
      rcases hv with e | e
      · exact ⟨r1, e, by omega⟩
      · exact ⟨r2, e, by omega⟩
    have sx : Sx d H H6 := s1.trans ((Sx.of s2).trans (s3.trans (s4.trans ((Sx.of s5).trans s6))))
    have eF := s6 _ _ nFd (s5 _ _ (s4 _ _ nFd (s3 _ _ nFd e2)))
    refine ⟨(n : Int), rfl, by omega, by omega, for_range (n := ((n : Int)).toNat) (fun j σ H' => ∃ (F' : Addr) (h : Nat) (f : List Nat) (y3 : Option V), σ = [some (.ref d), some (.int (h : Int)), some (.ref F'), y3] ∧ Sx d H H' ∧ Dc H' d ∧ F' ≠ d ∧ H' F' = some (ls (bI f)) ∧ f.length ≤ j ∧ h ≤ 40 ∧ (∀ x ∈ f, h ≤ x ∧ 1 ≤ x ∧ x ≤ 40) ∧ f.Pairwise (· ≥ ·)) ⟨F, h0, [], none, rfl, sx, d6, nFd, eF, Nat.le_refl _, by omega, fun x hx => (nomatch hx), List.Pairwise.nil⟩ (fun j σ H' hj hP => ?_) (fun σ H' hP => ?_)⟩
    · obtain ⟨F', h, f, y3, rfl, sH, dH, nF', hF, lf, h40, fx, fs⟩ := hP
      have hj2 : j < 40 := by omega
      refine ⟨_, rfl, _, rfl, _, _, rfl, rfl, d, (h : Int) + 1, rfl, dH, by omega, by omega, fun g H7 hg s7 d7 => ?_⟩
      have gh : g ≤ h := by omega
      have hF7 := s7 _ _ nF' hF
      refine ⟨_, rfl, _, rfl, sz1, fun o no => gen_upd H7 o (.lst [.int (g : Int)]) no fun H8 s8 e8 => ⟨_, rfl, _, _, rfl, rfl, .inr ⟨_, rfl, ?_⟩⟩⟩
      have sx8 : Sx d H H8 := sH.trans (s7.trans (Sx.of s8))
      have d8 := d7.same s8
      have hF8 := s8 _ _ hF7
      obtain ⟨f2, hf2, ok⟩ : ∃ f2 : List Nat, (List.replicate (if decide (0 < (g : Int)) = true then (1 : Int) else 0).toNat [V.int (g : Int)]).flatten = (bI f2).map V.int ∧ (f ++ f2).length ≤ j + 1 ∧ (∀ x ∈ f ++ f2, g ≤ x ∧ 1 ≤ x ∧ x ≤ 40) ∧ (f ++ f2).Pairwise (· ≥ ·) := by
        by_cases c : 0 < g
        · refine ⟨[g], by rw [decide_eq_true (show (0 : Int) < (g : Int) by omega)]; rfl, by rw [List.length_append]; show f.length + 1 ≤ _; omega, fun x hx => ?_, List.pairwise_append.mpr ⟨fs, List.pairwise_singleton _ _, fun x hx y hy => ?_⟩⟩
          · rcases List.mem_append.mp hx with z | z
            · have := fx x z
              omega
            · rw [List.mem_singleton.mp z]
              omega
          · rw [List.mem_singleton.mp hy]
            have := fx x hx
            show g ≤ x
            omega
        · refine ⟨[], by rw [decide_eq_false (show ¬ (0 : Int) < (g : Int) by omega)]; rfl, by rw [List.append_nil]; omega, fun x hx => ?_, by rw [List.append_nil]; exact fs⟩
          rw [List.append_nil] at hx
          have := fx x hx
          omega
      obtain ⟨k1, k2, k3⟩ := ok
      refine ⟨o, _, _, rfl, rfl, e8, by split <;> decide, by split <;> decide, ?_, fun p np => ?_⟩
      · split
        · exact (show 1 ≤ sizeLine by decide)
        · exact Nat.zero_le _
      rw [hf2]
      refine gen_upd H8 p (.lst ((bI f2).map V.int)) np fun H9 s9 e9 => ⟨F', p, _, _, rfl, rfl, s9 _ _ hF8, e9, ?_, fun u nu => gen_upd H9 u (.lst ((bI f).map V.int ++ (bI f2).map V.int)) nu fun Ha sa ea => ?_⟩
      · rw [bI_len, bI_len, sizeLine_eq]
        rw [List.length_append] at k1
        omega
      · refine ⟨u, g, f ++ f2, _, rfl, sx8.trans (Sx.of (s9.trans sa)), (d8.same s9).same sa, (d8.same s9).ne nu, ?_, k1, by omega, k2, k3⟩
        rw [ea]
        show _ = some (HO.lst ((List.map Int.ofNat (f ++ f2)).map V.int))
        rw [List.map_append, List.map_append]
    · obtain ⟨F', h, f, y3, rfl, sH, dH, nF', hF, lf, h40, fx, fs⟩ := hP
      refine ⟨_, rfl, .inl ⟨F', _, rfl, SqL.of hF, fun p np => gen_upd H' p (tp (bI f)) np fun H7 s7 e7 => fin p f H7 (sH.trans (Sx.of s7)) (dH.same s7) e7 ⟨by omega, fun x hx => (fx x hx).2, fs⟩⟩⟩
end
end K27

set_option Elab.async false
set_option linter.all false
set_option maxRecDepth 100000
set_option maxHeartbeats 4000000
/-! tuple * int, the int 1, too: the same tuple -/
namespace RepT
open PySem PySem.Spec PyProof.Rows L2
theorem tuple_mul1 (l : Addr) (items : Array Value) (n : Nat) (dd : Option Addr) (sl : Array (Option Value)) (u : Tok) :
    Meets (Builtin.«tuple.__mul__» ⟨[.ref l, .int 1 u], []⟩) (fun _ R s => s.heap.get? l = some { cls := .type "tuple", dict := dd, data := .seq items n, slots := sl } ∧ R (.ok (.ret (Value.ref l))) s) :=
  .of_wp fun prog w A R s h => by
    obtain ⟨hp, g, d, tk, os⟩ := s
    obtain ⟨hl, h⟩ := h
    have f1 := AutoSeq1.idx_int
    have hT : Shared.TypeIs ⟨hp, g, d, tk, os⟩ (.ref l) "tuple" := ⟨_, hl, rfl⟩
    have c1 : (items.isEmpty || (1 : Int) == 1) = true := by rw [show ((1 : Int) == 1) = true from rfl, Bool.or_true]
    wp_walk using AutoSeq1.wpAny_loadPart' hl, wpAny_typeOf hT
    repeat (first
      | (refine wpAny_ite_true (by rw [c1]) ?_; wp_walk using AutoSeq1.wpAny_loadPart' hl, wpAny_typeOf hT))
    exact ⟨_, rfl, h⟩
def rRep1 (K : PySem.W.Frag) : R2 := fun x y H Q => (∃ l xs, x = .ref l ∧ y = .int 1 ∧ SqT K H l xs ∧ Q (.ref l) H) ∨ rRepT K x y H Q
theorem op_rep1 {X : Cx} : OpR X (binaryOp .Mult) (rRep1 X.K) := by
  intro pins s σ H x y v u Q I rx ry h
  rcases h with h | h
  · obtain ⟨l, xs, rfl, rfl, hT, q⟩ := h
    cases rx
    obtain ⟨t, rfl⟩ := ry
    obtain ⟨its, r, ⟨⟨cls, dd, data, sl⟩, ho, hc, n, hd⟩, hs⟩ := I.tuple hT
    simp only at hc hd
    subst hc hd
    refine wpAny_binaryOp_repeat_ref (T := "tuple") (U := "int") (by decide) ⟨_, ho, rfl⟩ (fun s' => typeIs_int s' 1 t) noFill_tuple_mul F.fills_int_mul F.slot_int_rmul repeat_tuple F.slot_int_index.lookup
      (call_meets F.slot_int_rmul (typeIs_int s 1 t) F.entry_int_rmul (F.args_int_rmul_2 _ _) (int_rmul_tuple 1 t l its.toArray n dd sl)
        ⟨ho, rfl, ⟨_, ho, rfl⟩, call_meets F.slot_tuple_mul ⟨_, ho, rfl⟩ F.entry_tuple_mul (F.args_tuple_mul_2 _ _) (tuple_mul1 l its.toArray n dd sl t) ⟨ho, ?_⟩⟩)
    exact ⟨.ref l, H, I, rfl, q⟩
  · exact op_repT pins s σ H x y v u Q I rx ry h
end RepT

set_option Elab.async false
set_option linter.all false
set_option maxRecDepth 100000
set_option maxHeartbeats 4000000
/-! tuple * int, the int 0, too: an empty tuple -/
namespace RepZ
open PySem PySem.Spec PyProof.Rows L2 RepT
theorem tuple_mul0 (l : Addr) (items : Array Value) (n : Nat) (dd : Option Addr) (sl : Array (Option Value)) (u : Tok) (hne : items.isEmpty = false) :
    Meets (Builtin.«tuple.__mul__» ⟨[.ref l, .int 0 u], []⟩) (fun _ R s => s.heap.get? l = some { cls := .type "tuple", dict := dd, data := .seq items n, slots := sl } ∧
      R (.ok (.ret (Value.ref s.heap.objs.size))) { s with heap := s.heap.push { cls := Value.type "tuple", data := Data.seq #[] }, toks := s.toks }) :=
  .of_wp fun prog w A R s h => by
    obtain ⟨hp, g, d, tk, os⟩ := s
    obtain ⟨hl, h⟩ := h
    have f1 := AutoSeq1.idx_int
    have c1 : (items.isEmpty || (0 : Int) == 1) = false := by rw [hne]; rfl
    have c2 : (decide ((0 : Int) ≤ 0) || items.isEmpty) = true := by rw [decide_eq_true (Int.le_refl 0)]; rfl
    wp_walk using AutoSeq1.wpAny_loadPart' hl
    repeat (first
      | (refine wpAny_ite_false (decide_eq_false (by rw [c1]; exact Bool.false_ne_true)) ?_; wp_walk using AutoSeq1.wpAny_loadPart' hl)
      | (refine wpAny_ite_true (by rw [c2]) ?_; wp_walk using AutoSeq1.wpAny_loadPart' hl))
    exact ⟨_, rfl, h⟩
def rRep0 (K : PySem.W.Frag) : R2 := fun x y H Q => (∃ l xs, x = .ref l ∧ y = .int 0 ∧ SqT K H l xs ∧ xs ≠ [] ∧ ∀ p, H p = none → Q (.ref p) (upd H p (.tup []))) ∨ rRep1 K x y H Q
theorem op_rep0 {X : Cx} : OpR X (binaryOp .Mult) (rRep0 X.K) := by
  intro pins s σ H x y v u Q I rx ry h
  rcases h with h | h
  · obtain ⟨l, xs, rfl, rfl, hT, hne, q⟩ := h
    cases rx
    obtain ⟨t, rfl⟩ := ry
    obtain ⟨its, r, ⟨⟨cls, dd, data, sl⟩, ho, hc, n, hd⟩, hs⟩ := I.tuple hT
    simp only at hc hd
    subst hc hd
    have hl := r.length
    have he : its.toArray.isEmpty = false := by
      rw [List.isEmpty_toArray]
      cases its with
      | nil =>
        exact absurd (List.length_eq_zero_iff.mp (by simpa using hl)) hne
      | cons => rfl
    refine wpAny_binaryOp_repeat_ref (T := "tuple") (U := "int") (by decide) ⟨_, ho, rfl⟩ (fun s' => typeIs_int s' 0 t) noFill_tuple_mul F.fills_int_mul F.slot_int_rmul repeat_tuple F.slot_int_index.lookup
      (call_meets F.slot_int_rmul (typeIs_int s 0 t) F.entry_int_rmul (F.args_int_rmul_2 _ _) (int_rmul_tuple 0 t l its.toArray n dd sl)
        ⟨ho, rfl, ⟨_, ho, rfl⟩, call_meets F.slot_tuple_mul ⟨_, ho, rfl⟩ F.entry_tuple_mul (F.args_tuple_mul_2 _ _) (tuple_mul0 l its.toArray n dd sl t he) ⟨ho, ?_⟩⟩)
    refine ⟨.ref s.heap.objs.size, _, I.laid (t' := s.toks) (o := .tup []) (fun b ob q => Heap.get?_push_of_some _ q) (Nat.le_refl _) ?_, rfl, q _ (I.hok.fresh (Nat.le_refl _))⟩
    exact ⟨Nat.zero_le _, [], .nil, IsTup.new _ _⟩
  · exact op_rep1 pins s σ H x y v u Q I rx ry h
end RepZ

set_option Elab.async false
set_option linter.all false
set_option maxRecDepth 100000
set_option maxHeartbeats 1000000
/-! drawn boxes, turned and left -/
namespace K27
open PySem PySem.Spec PyProof.Rows L2 StX RZ MyR
theorem dcne {H : Hp} {a p : Addr} {l : List V} (h : Dc H a) (k : H p = some (.tup l)) : p ≠ a := fun e => by
  obtain ⟨x, y, z, q⟩ := h
  rw [e, q] at k
  cases k
theorem rep_z {K : PySem.W.Frag} {H : Hp} {l : Addr} {n : Nat} {z : Int} {Q : VK} (h : H l = some (tp [0])) (hz : z = (n : Int)) (hn : n ≤ 40) (q : ∀ p H', Same H H' → H' p = some (tp (bI (List.replicate n 0))) → Q (.ref p) H') : RepZ.rRep0 K (.ref l) (.int z) H Q := by
  subst hz
  match n, hn, q with
  | 0, _, q => exact .inl ⟨l, _, rfl, rfl, SqT.of h, by simp, fun p np => q p _ (same_upd0 np) (by rw [upd_same]; rfl)⟩
  | 1, _, q => exact .inr (.inl ⟨l, _, rfl, rfl, SqT.of h, q l H (fun _ _ e => e) h⟩)
  | n + 2, hn, q =>
    refine .inr (.inr ⟨l, _, _, rfl, rfl, SqT.of h, by simp, by omega, by omega, by show 1 ≤ 1000; decide, fun p np => q p _ (same_upd0 np) ?_⟩)
    rw [upd_same]
    show some (HO.tup (List.replicate (n + 2) [V.int 0]).flatten) = some (HO.tup (((List.replicate (n + 2) 0).map Int.ofNat).map V.int))
    rw [List.flatten_replicate_singleton, List.map_replicate, List.map_replicate]
    rfl
theorem sumI : ∀ b : List Nat, (bI b).sum = ((b.sum : Nat) : Int)
  | [] => rfl
  | x :: b => by
    show (x : Int) + (bI b).sum = _
    rw [sumI b, List.sum_cons, Int.natCast_add]
section
variable {P : Program} {w : World} {K : PySem.W.Frag} {mg : Str → Option Value} {base : Heap}
def spBR : Sp := fun vs H Q _ => ∃ d : Addr, vs = [.ref d] ∧ Dc H d ∧ ∀ H', Sx d H H' → Dc H' d → Q (.bl true) H'
theorem ok_law_box_right (T : Facts K mg) : FnOk P w K mg base CX0 6 T.f_law_box_right T.fd_law_box_right ["_law_dice_here"] spBR := by
  have G_law_roll : FnOk P w K mg base CX0 1 T.f_law_roll T.fd_law_roll ["_law_dice_here", "_law_total"] spRoll2 := (ok_law_roll T).imp roll2
  have G_law_box := ok_law_box (P := P) (w := w) (base := base) T
  have G_law_turned := ok_law_turned (P := P) (w := w) (base := base) T
  have G_turned_box := ok_turned_box (P := P) (w := w) (base := base) T
  have G_left_box := ok_left_box (P := P) (w := w) (base := base) T
  refine T.F_law_box_right.ok sc_law_box_right (fun vs H Q E h => ?_) (fun cdv A outer s H vs Q E hr h => ?_)
  · obtain ⟨d, rfl, _⟩ := h
    rfl
  · obtain ⟨d, rfl, D0, fin⟩ := h
    refine ⟨_, (PSs.nox (pss_cons (ps_set (i := 1) sc_law_box_right.nd rfl (.inl rfl) (pe_call G_law_box (hr.mono (by decide)) (by rfl) T.g_law_box T.F_law_box.kp T.b_law_box .nil pass0 (pa_cons (pv 0) pa_nil)))
    (pss_cons (ps_par (i := 2) (j := 3) (by rfl) sc_law_box_right.nd rfl rfl (by decide) rfl rfl (pa_cons (pe_call G_turned_box hr (by rfl) T.g_turned_box T.F_turned_box.kp T.b_turned_box .nil pass0 (pa_cons (pv 1) pa_nil)) (pa_cons (pe_op op_add (pe_callB call_len_seq (by rfl) T.z_len (by decide +kernel) (pa_cons (pv 1) pa_nil)) (pe_call G_law_roll (hr.mono (by decide)) (by rfl) T.g_law_roll T.F_law_roll.kp T.b_law_roll .nil pass0 (pa_cons (pv 0) (pa_cons (pe_op op_sub pe_int (pe_callB call_len_seq (by rfl) T.z_len (by decide +kernel) (pa_cons (pv 1) pa_nil))) pa_nil)))) pa_nil)) (by rfl))
    (pss_cons (ps_if (pw_or (pt_cmpR (op_neD (hu64 hr)) (pv 2) (pe_call G_law_turned (hr.mono (by decide)) (by rfl) T.g_law_turned T.F_law_turned.kp T.b_law_turned .nil pass0 (pa_cons (pv 1) pa_nil)) (nomark _)) (pw_or (pt_cmpR (op_neD (hu64 hr)) (pe_call G_turned_box hr (by rfl) T.g_turned_box T.F_turned_box.kp T.b_turned_box .nil pass0 (pa_cons (pv 2) pa_nil)) (pv 1) (nomark _)) (pw_or1 (pt_cmpR op_ne (pe_callB (cr_sumT (by rfl)) (by rfl) T.z_sum (by decide +kernel) (pa_cons (pv 2) pa_nil)) (pe_callB (cr_sumT (by rfl)) (by rfl) T.z_sum (by decide +kernel) (pa_cons (pv 1) pa_nil)) (nomark _))))).pt
      (pss_one (ps_ret pe_bl))
      pss_nil)
    (pss_cons (ps_set (i := 4) sc_law_box_right.nd rfl (.inl rfl) (pe_callB (MaxT.cr_maxT (by rfl)) (by rfl) T.z_max (by decide +kernel) (pa_cons (pe_op op_catA (pe_tup (pa_cons pe_int pa_nil)) (pv 1)) pa_nil)))
    (pss_cons (ps_set (i := 5) sc_law_box_right.nd rfl (.inr rfl) (pe_op op_add (pv 4) (pe_call G_law_roll (hr.mono (by decide)) (by rfl) T.g_law_roll T.F_law_roll.kp T.b_law_roll .nil pass0 (pa_cons (pv 0) (pa_cons (pe_op op_sub pe_int (pv 4)) pa_nil)))))
    (pss_cons (ps_set (i := 6) sc_law_box_right.nd rfl (.inl rfl) (pe_call G_left_box hr (by rfl) T.g_left_box T.F_left_box.kp T.b_left_box .nil pass0 (pa_cons (pv 1) (pa_cons (pv 3) (pa_cons (pv 5) pa_nil)))))
    (pss_cons (ps_set (i := 7) sc_law_box_right.nd rfl (.inl rfl) (pe_tupleOf (by rfl) T.z_tuple (pe_lc (own := [("_law_value", 8)]) (g := (gName 8)) (by rfl) sc_law_box_right.nd (pi_tup (pe_revT (pe_op op_catA (pv 1) (pe_op (RepZ.op_rep0 : OpR _ _ (RepZ.rRep0 K)) (pe_tup (pa_cons pe_int pa_nil)) (pe_op op_sub (pv 3) (pe_callB call_len_seq (by rfl) T.z_len (by decide +kernel) (pa_cons (pv 1) pa_nil))))))) (blkOk_by (N := N_law_box_right) (sc := defScope s_law_box_right) (by decide +kernel)) (fun _ _ _ _ _ => (pg_name (i := 8) sc_law_box_right.nd rfl (.inl rfl))) (fun _ _ _ _ _ => (pts_one (pt_cmpR op_lt (pv 8) (pv 5) (nomark _)))) (fun _ _ _ _ _ => (pe_op op_sub (pv 5) (pv 8))))))
    (pss_one (ps_ret (pe_and (pe_cmpR (op_eqD (hu64 hr)) (pv 6) (pv 7) (nomark _)) (pe_and (pe_cmpR (op_eqD (hu64 hr)) (pe_call G_left_box hr (by rfl) T.g_left_box T.F_left_box.kp T.b_left_box .nil pass0 (pa_cons (pv 6) (pa_cons (pv 3) (pa_cons (pv 5) pa_nil)))) (pv 1) (nomark _)) (pe_one (pe_cmpR op_eq (pe_callB (cr_sumT (by rfl)) (by rfl) T.z_sum (by decide +kernel) (pa_cons (pv 6) pa_nil)) (pe_op op_sub (pe_op op_mul (pv 3) (pv 5)) (pe_callB (cr_sumT (by rfl)) (by rfl) T.z_sum (by decide +kernel) (pa_cons (pv 1) pa_nil))) (nomark _))))))))))))))), ?_⟩
    refine ⟨_, rfl, d, rfl, D0, fun p b H1 s1 d1 hp bx => ?_⟩
    have bl := bx.len
    have lb := bI_len b
    refine ⟨_, rfl, p, b, rfl, hp, bx, fun p2 H2 s2 e2 => ⟨_, rfl, p, _, rfl, .inr (SqT.of (s2 _ _ hp)), ?_⟩⟩
    have h2 := s2 _ _ hp
    have d2 := d1.same s2
    refine ⟨_, rfl, _, rfl, p, _, rfl, .inr (SqT.of h2), _, _, rfl, rfl, d, (41 : Int) - (b.length : Int), by rw [lb]; rfl, d2, by omega, by omega, fun r H3 hr3 s3 d3 => ⟨_, _, rfl, rfl, ?_⟩⟩
    obtain ⟨N, hN⟩ : ∃ N : Nat, N = b.length + r := ⟨_, rfl⟩
    have pd : p ≠ d := dcne d2 h2
    have p2d : p2 ≠ d := dcne d2 e2
    have h3 := s3 _ _ pd h2
    have e3 := s3 _ _ p2d e2
    refine ⟨_, _, rfl, ?_⟩
    refine st_norm [some (.ref d), some (.ref p), some (.ref p2), some (.int (N : Int)), none, none, none, none, none] (by rw [hN, lb, Int.natCast_add]; rfl) ?_
    have s03 : Sx d H H3 := s1.trans ((Sx.of s2).trans s3)
    refine ⟨_, rfl, _, rfl, p, b, rfl, h3, bx, fun p4 H4 s4 e4 => ne_ints (SqT.of (s4 _ _ e3)) (SqT.of e4) ?_⟩
    rw [decide_eq_true rfl]
    refine ⟨_, rfl, iteF ⟨_, rfl, p2, tn b, rfl, s4 _ _ e3, tn_bx bx, fun p5 H5 s5 e5 => ⟨_, rfl, ne_ints (SqT.of e5) (SqT.of (s5 _ _ (s4 _ _ h3))) ?_⟩⟩⟩
    rw [decide_eq_true (show bI (tn (tn b)) = bI b by rw [tn_tn bx])]
    have s35 := s4.trans s5
    have h5 := s35 _ _ h3
    have e5' := s35 _ _ e3
    refine ⟨_, rfl, iteF ⟨_, rfl, p2, _, rfl, SqT.of e5', _, rfl, p, _, rfl, SqT.of h5, rfl, _, rfl, ?_⟩⟩
    rw [sumI, sumI, tn_sum bx, decide_eq_true rfl]
    refine iteF ⟨sz1, fun z nz => gen_upd H5 z (tp [0]) nz fun H6 s6 e6 => ⟨_, rfl, cat_rows e6 (s6 _ _ h5) (by rw [List.length_map]; show 1 + b.length ≤ 1000; omega) fun p0 H7 s7 e7 => ?_⟩⟩
    refine ⟨p0, _, rfl, SqT.of e7, by show 0 < (0 :: bI b).length; exact Nat.succ_pos _, fun m m1 m2 => ?_⟩
    have hm := max_head bx m1 m2
    subst hm
    have g40 := head40 bx
    have hmax := head_max bx
    have s57 := s6.trans s7
    have h7 := s57 _ _ h5
    have d7 := d3.same (s35.trans s57)
    have s07 : Sx d H H7 := s03.trans (Sx.of (s35.trans s57))
    clear e2 e3 e4 e5 e5' e6 e7 s1 s2 s3 s4 s5 s6 s7 s35 s57 h2 h3 h5 d1 d2 d3 s03 nz hp
    refine ⟨_, rfl, _, rfl, _, rfl, _, _, rfl, rfl, d, (41 : Int) - ((b.headD 0 : Nat) : Int), rfl, d7, by omega, by omega, fun r2 H8 hr8 s8 d8 => ⟨_, _, rfl, rfl, ?_⟩⟩
    obtain ⟨M, hM⟩ : ∃ M : Nat, M = b.headD 0 + r2 := ⟨_, rfl⟩
    refine st_norm [some (.ref d), some (.ref p), some (.ref p2), some (.int (N : Int)), some (.int ((b.headD 0 : Nat) : Int)), some (.int (M : Int)), none, none, none] (by rw [hM, Int.natCast_add]; rfl) ?_
    have h8 := s8 _ _ pd h7
    have bM : ∀ x ∈ b, x ≤ M := fun x hx => by have := hmax x hx; omega
    have N40 : N ≤ 40 := by omega
    have M40 : M ≤ 40 := by omega
    have bN : b.length ≤ N := by omega
    have s08 := s07.trans s8
    refine ⟨_, rfl, _, rfl, _, rfl, p, b, N, M, rfl, h8, bx, bN, N40, M40, bM, fun p9 H9 s9 e9 => ?_⟩
    have h9 := s9 _ _ h8
    refine ⟨_, rfl, sz1, fun z nz => gen_upd H9 z (tp [0]) nz fun Ha sa ea => ⟨_, rfl, _, rfl, p, _, rfl, .inr (SqT.of (sa _ _ h9)), _, _, rfl, rfl, ?_⟩⟩
    refine rep_z (n := N - b.length) ea (by rw [lb]; omega) (by omega) fun z2 Hb sb eb => cat_rows (sb _ _ (sa _ _ h9)) eb (by rw [List.length_map, List.length_map, List.length_replicate]; omega) fun W Hc sc ec => ?_
    have ew : bI b ++ bI (List.replicate (N - b.length) 0) = bI (wd b N) := by
      unfold wd bI
      rw [List.map_append]
    rw [ew] at ec
    have er : ((bI (wd b N)).map V.int).reverse = (bI (wd b N).reverse).map V.int := by
      unfold bI
      rw [List.map_reverse, List.map_reverse]
    refine ⟨W, _, rfl, SqT.of ec, fun u nu => ?_⟩
    rw [er]
    refine gen_upd Hc u (tp (bI (wd b N).reverse)) nu fun He se ee => ?_
    have wl := wd_len bN
    have lR : ((bI (wd b N).reverse).map V.int).length = N := by rw [bI_len, List.length_reverse, wl]
    refine ⟨u, rfl, ⟨_, SqT.of ee⟩, fun D3 hD3 => lc_tup (xs := (bI (wd b N).reverse).map V.int) (fun j H' => Same He H' ∧ H' D3 = some (ls (bI (lfT M ((wd b N).reverse.take j))))) ⟨same_upd0 hD3, upd_same⟩ (fun j H' _ hP => SqT.of (hP.1 _ _ ee)) (fun j x H' hx hP => ?_) (fun Hf hP => ?_)⟩
    · obtain ⟨sH, hL⟩ := hP
      obtain ⟨n, hn, rfl⟩ := bI_get hx
      have ct := lf_take M (wd b N).reverse j n hn
      refine ⟨rfl, _, rfl, _, rfl, _, _, rfl, rfl, _, rfl, ?_⟩
      by_cases c : n < M
      · rw [decide_eq_true (show (n : Int) < (M : Int) by omega)]
        rw [if_pos c] at ct
        refine iteT ⟨_, rfl, _, rfl, _, _, rfl, rfl, _, hL, ?_, fun a o e => ?_, ?_⟩
        · rw [bI_len]
          have := lfT_len M ((wd b N).reverse.take j)
          rw [List.length_take, List.length_reverse, wl] at this
          exact small1000 (by omega)
        · rw [upd_ne (ne_of_none e hD3)]
          exact sH _ _ e
        · rw [upd_same, ct, ← ls_snoc, show (((M - n : Nat)) : Int) = (M : Int) - (n : Int) by omega]
      · rw [decide_eq_false (show ¬ (n : Int) < (M : Int) by omega)]
        rw [if_neg c, List.append_nil] at ct
        exact iteF ⟨sH, by rw [ct]; exact hL⟩
    · obtain ⟨sf, lf0⟩ := hP
      rw [lR, List.take_of_length_le (by rw [List.length_reverse, wl]; exact Nat.le_refl _)] at lf0
      have lf0 : Hf D3 = some (ls (bI (lf b N M))) := lf0
      refine .inl ⟨D3, _, rfl, SqL.of lf0, fun u2 nu2 => gen_upd Hf u2 (tp (bI (lf b N M))) nu2 fun Hg sg eg => ?_⟩
      have s9g : Same H9 Hg := sa.trans (sb.trans (sc.trans (se.trans (sf.trans sg))))
      have e9g := s9g _ _ e9
      have h9g := s9g _ _ h9
      refine ⟨_, rfl, _, rfl, eq_ints (SqT.of e9g) (SqT.of eg) ⟨_, rfl, ?_⟩⟩
      rw [decide_eq_true rfl]
      have bx2 := lf_bx (M := M) bx bN N40 M40
      refine iteT ⟨_, rfl, _, rfl, _, rfl, p9, lf b N M, N, M, rfl, e9g, bx2, lf_len bN, N40, M40, fun x hx => (lf_ent x hx).2, fun u3 Hh sh eh => ⟨_, rfl, eq_ints (SqT.of eh) (SqT.of (sh _ _ h9g)) ⟨_, rfl, ?_⟩⟩⟩
      rw [decide_eq_true (show bI (lf (lf b N M) N M) = bI b by rw [lf_lf bx bN bM])]
      have sm := lf_sum (M := M) bN bM
      have NM : N * M ≤ 40 * 40 := Nat.mul_le_mul N40 M40
      refine iteT ⟨_, rfl, p9, _, rfl, SqT.of (sh _ _ e9g), _, rfl, _, rfl, _, _, rfl, rfl, .inl ⟨by omega, by omega⟩, _, rfl, p, _, rfl, SqT.of (sh _ _ h9g), _, _, rfl, rfl, rfl, ?_⟩
      rw [sumI, sumI, decide_eq_true (show V.int (((lf b N M).sum : Nat) : Int) = V.int ((N : Int) * (M : Int) - ((b.sum : Nat) : Int)) by rw [← Int.natCast_mul, show ((N * M : Nat) : Int) - ((b.sum : Nat) : Int) = (((lf b N M).sum : Nat) : Int) by omega])]
      have sx : Sx d H9 Hh := Sx.of (s9g.trans sh)
      exact fin Hh (s08.trans ((Sx.of s9).trans sx)) ((d8.same s9).same (s9g.trans sh))
end
end K27

set_option Elab.async false
set_option linter.all false
set_option maxRecDepth 100000
set_option maxHeartbeats 1000000
/-! the generator of boxes -/
namespace K27
open PySem PySem.Spec PyProof.Rows L2 StX RZ MyR
/-! ### the stack -/
abbrev Tr3 := List Nat × Nat × Nat
def outs (r : Nat) (ts : List Tr3) : List (List Nat) := ts.reverse.flatMap fun e => (D (r - e.1.length) e.2.2 e.2.1).map (e.1 ++ ·)
def wt (r : Nat) (ts : List Tr3) : Nat := (ts.map fun e => nod (r - e.1.length) e.2.2 e.2.1).sum
theorem outs_app (r : Nat) (A B : List Tr3) : outs r (A ++ B) = outs r B ++ outs r A := by
  unfold outs
  rw [List.reverse_append, List.flatMap_append]
theorem wt_app (r : Nat) (A B : List Tr3) : wt r (A ++ B) = wt r A + wt r B := by
  unfold wt
  rw [List.map_append, List.sum_append]
theorem wt_len (r : Nat) : ∀ ts : List Tr3, ts.length ≤ wt r ts
  | [] => Nat.zero_le _
  | e :: ts => by
    have h1 := wt_len r ts
    have h2 := nod_pos (r - e.1.length) e.2.2 e.2.1
    have h3 : wt r (e :: ts) = nod (r - e.1.length) e.2.2 e.2.1 + wt r ts := rfl
    rw [List.length_cons]
    omega
/-- what is pushed behind (b, l, c), the first j of it -/
def chd (r : Nat) (b : List Nat) (l j : Nat) : List Tr3 := ((List.range j).filter fun i => decide (l ≤ (i + 1) * (r - b.length))).map fun i => (b ++ [i + 1], l - (i + 1), i + 1)
theorem chd_S (r : Nat) (b : List Nat) (l j : Nat) : chd r b l (j + 1) = chd r b l j ++ if l ≤ (j + 1) * (r - b.length) then [(b ++ [j + 1], l - (j + 1), j + 1)] else [] := by
  unfold chd
  rw [List.range_succ, List.filter_append, List.map_append]
  congr 1
  by_cases c : l ≤ (j + 1) * (r - b.length)
  · rw [List.filter_cons_of_pos (by simpa using c), if_pos c]
    rfl
  · rw [List.filter_cons_of_neg (by simpa using c), if_neg c]
    rfl
theorem chd_len (r : Nat) (b : List Nat) (l j : Nat) : (chd r b l j).length ≤ j := by
  unfold chd
  rw [List.length_map]
  refine Nat.le_trans (List.length_filter_le _ _) ?_
  rw [List.length_range]
  exact Nat.le_refl _
theorem outs_step (r : Nat) (ts : List Tr3) (b : List Nat) (c l : Nat) (h : 0 < l) : outs r (ts ++ chd r b l (min c l)) = outs r (ts ++ [(b, l, c)]) := by
  rw [outs_app, outs_app]
  congr 1
  unfold outs chd
  rw [← List.map_reverse, List.flatMap_map]
  show _ = ((D (r - b.length) c l).map (b ++ ·)) ++ []
  rw [List.append_nil, D_any _ _ _ h, List.map_flatMap]
  refine flat_congr fun i _ => ?_
  rw [List.map_map]
  show (D (r - (b ++ [i + 1]).length) (i + 1) (l - (i + 1))).map (b ++ [i + 1] ++ ·) = _
  rw [List.length_append, show r - (b.length + [i + 1].length) = r - b.length - 1 by show r - (b.length + 1) = _; omega]
  refine List.map_congr_left fun x _ => ?_
  show b ++ [i + 1] ++ x = b ++ (i + 1) :: x
  rw [List.append_assoc]
  rfl
theorem wt_step (r : Nat) (ts : List Tr3) (b : List Nat) (c l : Nat) (h : 0 < l) : wt r (ts ++ chd r b l (min c l)) + 1 = wt r (ts ++ [(b, l, c)]) := by
  rw [wt_app, wt_app]
  have e : wt r [(b, l, c)] = nod (r - b.length) c l := by
    show nod (r - b.length) c l + 0 = _
    rw [Nat.add_zero]
  rw [e, nod_any _ _ _ h]
  have e2 : wt r (chd r b l (min c l)) = (((List.range (min c l)).filter fun i => decide (l ≤ (i + 1) * (r - b.length))).map fun i => nod (r - b.length - 1) (i + 1) (l - (i + 1))).sum := by
    unfold wt chd
    rw [List.map_map]
    congr 1
    refine List.map_congr_left fun i _ => ?_
    show nod (r - (b ++ [i + 1]).length) (i + 1) (l - (i + 1)) = _
    rw [List.length_append]
    rfl
  rw [e2]
  omega
theorem outs_zero (r : Nat) (ts : List Tr3) (b : List Nat) (c : Nat) : outs r (ts ++ [(b, 0, c)]) = b :: outs r ts := by
  rw [outs_app]
  unfold outs
  show ((D (r - b.length) c 0).map (b ++ ·) ++ []) ++ _ = _
  rw [D_l0]
  show ([b ++ []] ++ []) ++ _ = _
  rw [List.append_nil, List.append_nil]
  rfl
theorem wt_zero (r : Nat) (ts : List Tr3) (b : List Nat) (c l : Nat) : wt r ts + 1 ≤ wt r (ts ++ [(b, l, c)]) := by
  rw [wt_app]
  have : wt r [(b, l, c)] = nod (r - b.length) c l + 0 := rfl
  have := nod_pos (r - b.length) c l
  omega
/-- the stack in the heap -/
abbrev SI := Addr × Addr × Tr3
def WS (H : Hp) (ws : List SI) : Prop := ∀ e ∈ ws, H e.1 = some (.tup [.ref e.2.1, .int (e.2.2.2.1 : Nat), .int (e.2.2.2.2 : Nat)]) ∧ H e.2.1 = some (tp (bI e.2.2.1))
theorem WS.same {H H' : Hp} {ws : List SI} (h : WS H ws) (s : Same H H') : WS H' ws := fun e he => ⟨s _ _ (h e he).1, s _ _ (h e he).2⟩
theorem WS.upd {H : Hp} {ws : List SI} {a : Addr} {xs ys : List V} (h : WS H ws) (ha : H a = some (.lst xs)) : WS (L2.upd H a (.lst ys)) ws := fun e he => by
  obtain ⟨h1, h2⟩ := h e he
  refine ⟨?_, ?_⟩
  · rw [upd_ne fun z => by rw [z, ha] at h1; cases h1]
    exact h1
  · rw [upd_ne fun z => by rw [z, ha] at h2; cases h2]
    exact h2
def wdat (ws : List SI) : List PyData := ws.map fun e => .tuple [.tuple ((bI e.2.2.1).map PyData.int), .int (e.2.2.2.1 : Nat), .int (e.2.2.2.2 : Nat)]
theorem lay_w : ∀ ws : List SI, PyData.canLayAll0 (wdat ws) = true
  | [] => rfl
  | e :: ws => by
    show ((PyData.canLayAll0 ((bI e.2.2.1).map PyData.int) && (true && (true && true))) && PyData.canLayAll0 (wdat ws)) = true
    rw [lay_w ws, lay_ints]
    rfl
theorem depth_w : ∀ ws : List SI, PyData.depthAll (wdat ws) ≤ 2
  | [] => Nat.zero_le _
  | e :: ws => by
    show max (max (PyData.depthAll ((bI e.2.2.1).map PyData.int) + 1) (max 0 (max 0 0)) + 1) (PyData.depthAll (wdat ws)) ≤ 2
    rw [depth_ints]
    have := depth_w ws
    omega
theorem dp_w {K : PySem.W.Frag} {H : Hp} : ∀ {ws : List SI}, WS H ws → DpAll K H (ws.map fun e => V.ref e.1) (wdat ws)
  | [], _ => .nil
  | e :: ws, h => .cons (.tup (SqT.of (h e (.head _)).1) (.cons (.tup (SqT.of (h e (.head _)).2) (dpAll_ints _)) (.cons (.int _) (.cons (.int _) .nil)))) (dp_w fun x hx => h x (.tail _ hx))
theorem shaped_w (ws : List SI) : SeqAt.shaped (.list (wdat ws)) = true := by
  unfold SeqAt.shaped
  rw [show PyData.canLay0 (.list (wdat ws)) = PyData.canLayAll0 (wdat ws) from rfl, lay_w]
  rw [show PyData.depth (.list (wdat ws)) = PyData.depthAll (wdat ws) + 1 from rfl, decide_eq_true (show PyData.depthAll (wdat ws) + 1 ≤ 64 by have := depth_w ws; omega)]
  rfl
theorem ne_ws {K : PySem.W.Frag} {H : Hp} {a b : Addr} {ws : List SI} {Q : VK} (ha : H a = some (.lst (ws.map fun e => V.ref e.1))) (h : WS H ws) (hb : H b = some (.lst [])) (q : Q (.bl (!ws.isEmpty)) H) : rNeD K (.ref a) (.ref b) H Q := by
  refine ⟨.list (wdat ws), .list [], .lst (SqL.of ha) (dp_w h), .lst (SqL.of hb) .nil, shaped_w ws, by decide +kernel, ?_⟩
  rw [show PyData.eqv (.list (wdat ws)) (.list []) = ws.isEmpty by cases ws <;> rfl]
  exact q
theorem RB.upd {H : Hp} {as : List Addr} {bs : List (List Nat)} {a : Addr} {xs ys : List V} (h : RB H as bs) (ha : H a = some (.lst xs)) : RB (L2.upd H a (.lst ys)) as bs := RB.keep (fun b l e => by
  rw [upd_ne fun z => by rw [z, ha] at e; cases e]
  exact e) h
theorem Same.upd0 {H H' : Hp} {a : Addr} {o : HO} (s : Same H H') (n : H a = none) : Same H (L2.upd H' a o) := fun b u e => by
  rw [upd_ne fun z => by rw [z, n] at e; cases e]
  exact s _ _ e
structure LI (H : Hp) (l r c m : Nat) (a : Addr) (ws : List SI) (as : List Addr) (bs : List (List Nat)) (H' : Hp) : Prop where
  sm : Same H H'
  na : H a = none
  ha : H' a = some (.lst (ws.map fun e => V.ref e.1))
  st : WS H' ws
  bd : ∀ e ∈ ws, e.2.2.1.length ≤ r ∧ e.2.2.2.2 ≤ 6 ∧ e.2.2.2.1 ≤ 1600
  rb : RB H' as bs
  eq : bs ++ outs r (ws.map fun e => e.2.2) = D r c l
  mw : m = wt r (ws.map fun e => e.2.2)
  bn : bs.length + m ≤ 117649
section
variable {P : Program} {w : World} {K : PySem.W.Frag} {mg : Str → Option Value} {base : Heap}
def spBoxes : SpG := fun vs H Q E => ∃ l r c : Nat, vs = [.int l, .int r, .int c] ∧ l ≤ 1600 ∧ r ≤ 6 ∧ c ≤ 6 ∧ ∀ as H', Same H H' → RB H' as (D r c l) → Q (as.map V.ref) H'
theorem ok_boxes (T : Facts K mg) : GFn P w K mg base 4 T.f_boxes T.fd_boxes ["weight", "parts", "most"] spBoxes := by
  have G_require_part := ok_require_part (P := P) (w := w) (base := base) T
  have G_require_weight := ok_require_weight (P := P) (w := w) (base := base) T
  refine GenIf.gfnD T.F_boxes sc_boxes (fun vs H Q E h => ?_) (fun cdv A outer s H vs Q E pn hr h => ?_)
  · obtain ⟨l, r, c, rfl, _⟩ := h
    rfl
  · obtain ⟨l, r, c, rfl, hl, hr6, hc, q⟩ := h
    refine ⟨_, (gss_cons (gs_ps (ps_expr (pe_call G_require_weight hr (by rfl) T.g_require_weight T.F_require_weight.kp T.b_require_weight .nil pass0 (pa_cons (pv 0) pa_nil))))
    (gss_cons (gs_ps (ps_expr (pe_call G_require_part hr (by rfl) T.g_require_part T.F_require_part.kp T.b_require_part .nil pass0 (pa_cons (pv 1) pa_nil))))
    (gss_cons (gs_ps (ps_expr (pe_call G_require_part hr (by rfl) T.g_require_part T.F_require_part.kp T.b_require_part .nil pass0 (pa_cons (pv 2) pa_nil))))
    (gss_cons (gs_ps (ps_set (i := 3) sc_boxes.nd rfl (.inl rfl) (pe_lst (pa_cons (pe_tup (pa_cons (pe_tup pa_nil) (pa_cons (pv 0) (pa_cons (pv 2) pa_nil)))) pa_nil))))
    (gss_cons (gs_while owns_gcx (pt_cmpR (op_neD (hu64 hr)) (pv 3) (pe_lst pa_nil) (nomark _))
      (gss_cons (gs_ps (ps_asg (pe_bm0 PySem.F.plainAttrs_list PySem.F.slot_list_pop PySem.F.type_list_pop mt_pop (pv 3)) (pg_tup (by rfl) (pgs_cons (pg_name (i := 4) sc_boxes.nd rfl (.inl rfl)) (pgs_cons (pg_name (i := 5) sc_boxes.nd rfl (.inl rfl)) (pgs_cons (pg_name (i := 6) sc_boxes.nd rfl (.inl rfl)) pgs_nil))))))
      (gss_cons (gs_ps (ps_set (i := 7) sc_boxes.nd rfl (.inl rfl) (pe_op op_sub (pv 1) (pe_callB call_len_seq (by rfl) T.z_len (by decide +kernel) (pa_cons (pv 4) pa_nil)))))
      (gss_cons (GenIf.gs_if (pt_cmpR op_eq (pv 5) pe_int (nomark _))
        (gss_cons (gs_yield (pv 4))
        gss_nil)
        (gss_pss (pss_one (ps_for owns_gcx (by rfl) (pi_range2 (by rfl) T.z_range (pa_cons pe_int (pa_cons (pe_op op_add (pe_callB (call_min2 (by rfl)) (by rfl) T.z_min (by decide +kernel) (pa_cons (pv 6) (pa_cons (pv 5) pa_nil))) pe_int) pa_nil))) (pg_name (i := 8) sc_boxes.nd rfl (.inl rfl))
          (pss_one (ps_if (pt_cmpR op_ge (pe_op op_mul (pv 8) (pv 7)) (pv 5) (nomark _))
            (pss_one (ps_expr (pe_bm PySem.F.plainAttrs_list PySem.F.slot_list_append PySem.F.type_list_append mt_append (pv 3) (pa_cons (pe_tup (pa_cons (pe_tup (pa_star (pv 4) (pa_cons (pv 8) pa_nil))) (pa_cons (pe_op op_sub (pv 5) (pv 8)) (pa_cons (pv 8) pa_nil)))) pa_nil))))
            pss_nil))))))
      gss_nil))))
    gss_nil))))), ?_⟩
    refine ⟨_, rfl, l, rfl, by omega, by omega, ⟨_, rfl, r, rfl, by omega, by omega, ⟨_, rfl, c, rfl, by omega, by omega, ?_⟩⟩⟩
    refine ⟨(show 0 ≤ sizeLine from Nat.zero_le _), fun b0 n0 => gen_upd H b0 (tp []) n0 fun H1 s1 e1 => ⟨_, rfl, _, rfl, (show 3 ≤ sizeLine by decide), fun t0 m0 => gen_upd H1 t0 (.tup [.ref b0, .int l, .int c]) m0 fun H2 s2 e2 => ⟨sz1, fun a na => gen_upd H2 a (.lst [.ref t0]) na fun H3 s3 e3 => ?_⟩⟩⟩
    have s03 := s1.trans (s2.trans s3)
    have nod6 : nod r c l ≤ 117649 := Nat.le_trans (nod_le r c l) (Nat.le_trans (Nat.pow_le_pow_left (show c + 1 ≤ 7 by omega) r) (Nat.le_trans (Nat.pow_le_pow_right (by decide) hr6) (by decide)))
    have I0 : LI H l r c (nod r c l) a [(t0, b0, [], l, c)] [] [] H3 := by
      refine ⟨s03, ?_, e3, fun e he => ?_, fun e he => ?_, True.intro, ?_, ?_, ?_⟩
      · cases z : H a with
        | none => rfl
        | some o =>
          have := (s1.trans s2) _ _ z
          rw [na] at this
          cases this
      · rw [List.mem_singleton.mp he]
        exact ⟨s3 _ _ e2, (s2.trans s3) _ _ e1⟩
      · rw [List.mem_singleton.mp he]
        exact ⟨Nat.zero_le _, hc, hl⟩
      · show ((D (r - 0) c l).map ([] ++ ·)) ++ [] = _
        rw [List.append_nil]
        exact List.map_id _
      · show _ = nod (r - 0) c l + 0
        rfl
      · show 0 + nod r c l ≤ _
        omega
    refine ⟨fun m ys σ H' => ∃ ws as bs y4 y5 y6 y7 y8, σ = [some (.int l), some (.int r), some (.int c), some (.ref a), y4, y5, y6, y7, y8] ∧ ys = as.map V.ref ∧ LI H l r c m a ws as bs H', ⟨_, _, [], [], none, none, none, none, none, rfl, rfl, I0⟩, ?_⟩
    rintro m ys σ H' ⟨ws, as, bs, y4, y5, y6, y7, y8, rfl, rfl, I⟩
    refine ⟨_, rfl, (show 0 ≤ sizeLine from Nat.zero_le _), fun E0 nE => gen_upd H' E0 (.lst []) nE fun H4 s4 e4 => ne_ws (s4 _ _ I.ha) (I.st.same s4) e4 ⟨_, rfl, ?_⟩⟩
    have ha4 := s4 _ _ I.ha
    have st4 := I.st.same s4
    have rb4 := I.rb.same s4
    by_cases cw : ws = []
    · rw [cw]
      show if (false : Bool) = true then _ else _
      refine iteF ?_
      have := I.eq
      rw [cw] at this
      have this : bs ++ [] = D r c l := this
      rw [List.append_nil] at this
      exact q as H4 (I.sm.trans s4) (by rw [← this]; exact rb4)
    obtain ⟨ws', e, rfl⟩ : ∃ ws' e, ws = ws' ++ [e] := ⟨ws.dropLast, ws.getLast cw, (List.dropLast_concat_getLast cw).symm⟩
    obtain ⟨t1, b1, b, k, d⟩ := e
    have ie : (ws' ++ [(t1, b1, b, k, d)]).isEmpty = false := by cases ws' <;> rfl
    rw [ie]
    show if (true : Bool) = true then _ else _
    refine iteT ⟨fun ys' σ' H' => ∃ m', m' < m ∧ ∃ ws as bs y4 y5 y6 y7 y8, σ' = [some (.int l), some (.int r), some (.int c), some (.ref a), y4, y5, y6, y7, y8] ∧ ys' = as.map V.ref ∧ LI H l r c m' a ws as bs H', fun _ _ _ h => h, ?_⟩
    obtain ⟨x1, x2⟩ := st4 (t1, b1, b, k, d) (by simp)
    have dd := I.bd (t1, b1, b, k, d) (by simp)
    have d1 : b.length ≤ r := dd.1
    have d2 : d ≤ 6 := dd.2.1
    have d3 : k ≤ 1600 := dd.2.2
    clear dd
    have elast : ((ws' ++ [(t1, b1, b, k, d)]).map fun e => V.ref e.1)[((ws' ++ [(t1, b1, b, k, d)]).map fun e => V.ref e.1).length - 1]? = some (V.ref t1) := by
      rw [List.map_append, List.length_append]
      show (_ ++ [V.ref t1])[_ + 1 - 1]? = _
      rw [Nat.add_sub_cancel, List.getElem?_append_right (Nat.le_refl _), Nat.sub_self]
      rfl
    have edrop : ((ws' ++ [(t1, b1, b, k, d)]).map fun e => V.ref e.1).dropLast = ws'.map fun e => V.ref e.1 := by
      rw [List.map_append]
      exact List.dropLast_concat
    refine ⟨_, rfl, .inl ⟨rfl, _, SqL.of ha4⟩, a, _, V.ref t1, rfl, rfl, ha4, elast, ?_⟩
    rw [edrop]
    have st5 := st4.upd (ys := ws'.map fun e => V.ref e.1) ha4
    have rb5 := rb4.upd (ys := ws'.map fun e => V.ref e.1) ha4
    have sm5 := Same.upd0 (o := .lst (ws'.map fun e => V.ref e.1)) (I.sm.trans s4) I.na
    have ha5 : (upd H4 a (.lst (ws'.map fun e => V.ref e.1))) a = some (.lst (ws'.map fun e => V.ref e.1)) := upd_same
    generalize upd H4 a (.lst (ws'.map fun e => V.ref e.1)) = H5 at st5 rb5 sm5 ha5 ⊢
    have ts : (ws' ++ [(t1, b1, b, k, d)]).map (fun e => e.2.2) = ws'.map (fun e => e.2.2) ++ [(b, k, d)] := List.map_append
    have Ieq := I.eq
    have Imw := I.mw
    have Ibn := I.bn
    have Ibd := I.bd
    have Ina := I.na
    rw [ts] at Ieq Imw
    obtain ⟨z1, z2⟩ := st5 (t1, b1, b, k, d) (by simp)
    clear I x1 x2 st4 rb4 ha4 s4 e4 elast edrop I0 cw ie
    refine ⟨t1, _, rfl, SqT.of z1, rfl, _, _, rfl, _, _, rfl, _, _, rfl, rfl, ?_⟩
    refine ⟨_, rfl, _, rfl, b1, _, rfl, .inr (SqT.of z2), _, _, rfl, rfl, ?_⟩
    refine st_norm [some (.int l), some (.int r), some (.int c), some (.ref a), some (.ref b1), some (.int k), some (.int d), some (.int ((r - b.length : Nat) : Int)), y8] (by rw [bI_len, show (((r - b.length : Nat)) : Int) = (r : Int) - (b.length : Int) by omega]; rfl) ?_
    have wtn := wt_len r (ws'.map fun e => e.2.2)
    rw [List.length_map] at wtn
    have wz := wt_zero r (ws'.map fun e => e.2.2) b d k
    refine ⟨_, rfl, rfl, ?_⟩
    by_cases k0 : k = 0
    · subst k0
      rw [outs_zero] at Ieq
      have lbs : bs.length = as.length := (RB.len rb5).symm
      refine ⟨true, rfl, iteT ⟨by rw [List.length_map, sizeLine_eq]; omega, _, rfl, wt r (ws'.map fun e => e.2.2), by omega, ws', as ++ [b1], bs ++ [b], _, _, _, _, _, rfl, by rw [List.map_append]; rfl, ?_⟩⟩
      exact ⟨sm5, Ina, ha5, fun e he => st5 e (by simp [he]), fun e he => Ibd e (by simp [he]), RB.snoc rb5 z2, by rw [List.append_assoc]; exact Ieq, rfl, by rw [List.length_append]; show bs.length + 1 + _ ≤ _; omega⟩
    have kp : 0 < k := by omega
    have os := outs_step r (ws'.map fun e => e.2.2) b d k kp
    have wts := wt_step r (ws'.map fun e => e.2.2) b d k kp
    refine ⟨false, by rw [decide_eq_false (fun z => k0 (by have := V.int.inj z; omega))], iteF ?_⟩
    have emin : (if (k : Int) < (d : Int) then (k : Int) else (d : Int)) = ((min d k : Nat) : Int) := by
      by_cases z : (k : Int) < (d : Int)
      · rw [if_pos z, Nat.min_eq_right (by omega)]
      · rw [if_neg z, Nat.min_eq_left (by omega)]
    refine ⟨_, rfl, _, rfl, _, _, rfl, ?_⟩
    rw [emin]
    refine ⟨_, _, rfl, rfl, 1, ((min d k : Nat) : Int) + 1, rfl, ⟨by decide, by decide, by omega, by omega⟩, ?_⟩
    have en : (((min d k : Nat) : Int) + 1 - 1).toNat = min d k := by omega
    rw [en]
    refine for_range (n := min d k) (fun j σ' H' => ∃ nw y8, σ' = [some (.int l), some (.int r), some (.int c), some (.ref a), some (.ref b1), some (.int k), some (.int d), some (.int ((r - b.length : Nat) : Int)), y8] ∧ Same H H' ∧ H' a = some (.lst ((ws' ++ nw).map fun e => V.ref e.1)) ∧ WS H' (ws' ++ nw) ∧ (nw.map fun e => e.2.2) = chd r b k j ∧ RB H' as bs ∧ H' b1 = some (tp (bI b))) ⟨[], y8, rfl, sm5, by rw [List.append_nil]; exact ha5, fun e he => st5 e (by simp at he; simp [he]), rfl, rb5, z2⟩ (fun j σ' H' hj hP => ?_) (fun σ' H' hP => ?_)
    · obtain ⟨nw, y8', rfl, sH, hL, stH, enw, rbH, hb1⟩ := hP
      have cS := chd_S r b k j
      have jd : j < d := by omega
      have em : (1 + (j : Int)) * (((r - b.length : Nat)) : Int) = (((j + 1) * (r - b.length) : Nat) : Int) := by
        rw [Int.natCast_mul, show (1 + (j : Int)) = ((j + 1 : Nat) : Int) by omega]
      refine ⟨_, rfl, _, rfl, _, _, rfl, rfl, .inl ⟨by omega, by omega⟩, _, rfl, _, _, rfl, rfl, _, rfl, ?_⟩
      by_cases cj : k ≤ (j + 1) * (r - b.length)
      · rw [if_pos cj] at cS
        rw [decide_eq_true (show (k : Int) ≤ (1 + (j : Int)) * (((r - b.length : Nat)) : Int) by rw [em]; omega)]
        refine iteT ⟨_, rfl, .inl ⟨rfl, _, SqL.of hL⟩, _, rfl, b1, _, rfl, .inl (SqT.of hb1), _, rfl, ?_⟩
        dsimp only [tNil]
        have e2 : (bI b).map V.int ++ [V.int (1 + (j : Int))] = (bI (b ++ [j + 1])).map V.int := by
          unfold bI
          rw [List.map_append, List.map_append]
          show _ ++ [V.int (1 + (j : Int))] = _ ++ [V.int ((j + 1 : Nat) : Int)]
          rw [show (1 + (j : Int)) = ((j + 1 : Nat) : Int) by omega]
        rw [e2]
        refine ⟨by rw [bI_len, List.length_append, sizeLine_eq]; show b.length + 1 ≤ _; omega, fun p1 n1 => gen_upd H' p1 _ n1 fun H6 s6 f6 => ⟨_, rfl, _, rfl, _, _, rfl, rfl, _, rfl, (show 3 ≤ sizeLine by decide), fun p2 n2 => gen_upd H6 p2 (.tup [.ref p1, .int ((k : Int) - (1 + (j : Int))), .int (1 + (j : Int))]) n2 fun H7 s7 f7 => ?_⟩⟩
        have s67 := s6.trans s7
        have hL7 := s67 _ _ hL
        have lnw : nw.length ≤ d := by
          have := congrArg List.length enw
          rw [List.length_map] at this
          have := chd_len r b k j
          omega
        refine ⟨a, _, _, rfl, rfl, hL7, by rw [List.length_map, List.length_append, sizeLine_eq]; omega, nw ++ [(p2, p1, b ++ [j + 1], k - (j + 1), j + 1)], _, rfl, ?_, ?_, ?_, ?_, ?_, ?_⟩
        · exact Same.upd0 (sH.trans s67) Ina
        · rw [upd_same, ← List.append_assoc, List.map_append (l₁ := ws' ++ nw)]
          rfl
        · have w7 : WS H7 (ws' ++ (nw ++ [(p2, p1, b ++ [j + 1], k - (j + 1), j + 1)])) := fun e he => by
            rw [← List.append_assoc] at he
            rcases List.mem_append.mp he with z | z
            · exact (stH.same s67) e z
            · rw [List.mem_singleton.mp z]
              refine ⟨?_, s7 _ _ f6⟩
              rw [f7]
              show some (HO.tup [V.ref p1, V.int ((k : Int) - (1 + (j : Int))), V.int (1 + (j : Int))]) = some (HO.tup [V.ref p1, V.int ((k - (j + 1) : Nat) : Int), V.int ((j + 1 : Nat) : Int)])
              have kj : j < k := by omega
              rw [show ((k - (j + 1) : Nat) : Int) = (k : Int) - (1 + (j : Int)) by omega, show ((j + 1 : Nat) : Int) = 1 + (j : Int) by omega]
          exact w7.upd hL7
        · rw [List.map_append, enw, cS]
          rfl
        · exact (rbH.same s67).upd hL7
        · rw [upd_ne fun z => by rw [z] at hb1; rw [hL] at hb1; cases hb1]
          exact s67 _ _ hb1
      · rw [if_neg cj, List.append_nil] at cS
        rw [decide_eq_false (show ¬ (k : Int) ≤ (1 + (j : Int)) * (((r - b.length : Nat)) : Int) by rw [em]; omega)]
        exact iteF ⟨nw, _, rfl, sH, hL, stH, by rw [enw, cS], rbH, hb1⟩
    · obtain ⟨nw, y8', rfl, sH, hL, stH, enw, rbH, hb1⟩ := hP
      have em2 : (ws' ++ nw).map (fun e => e.2.2) = ws'.map (fun e => e.2.2) ++ chd r b k (min d k) := by rw [List.map_append, enw]
      refine ⟨wt r ((ws' ++ nw).map fun e => e.2.2), by rw [em2]; omega, ws' ++ nw, as, bs, _, _, _, _, _, rfl, rfl, ?_⟩
      refine ⟨sH, Ina, hL, stH, fun e he => ?_, rbH, by rw [em2, os]; exact Ieq, rfl, by rw [em2]; omega⟩
      rcases List.mem_append.mp he with z | z
      · exact Ibd e (by simp [z])
      · have he2 : e.2.2 ∈ chd r b k (min d k) := by
          rw [← enw]
          exact List.mem_map.mpr ⟨e, z, rfl⟩
        obtain ⟨i, hi, ei⟩ := List.mem_map.mp he2
        obtain ⟨h1, h2⟩ := List.mem_filter.mp hi
        have h1 := List.mem_range.mp h1
        have h2 := of_decide_eq_true h2
        have rl : 0 < r - b.length := by
          rcases Nat.eq_zero_or_pos (r - b.length) with z | z
          · rw [z] at h2
            omega
          · exact z
        rw [← ei]
        refine ⟨?_, ?_, ?_⟩
        · show (b ++ [i + 1]).length ≤ r
          rw [List.length_append]
          show b.length + 1 ≤ r
          omega
        · show i + 1 ≤ 6
          omega
        · show k - (i + 1) ≤ 1600
          omega
end
end K27

set_option Elab.async false
set_option linter.all false
set_option maxRecDepth 100000
set_option maxHeartbeats 1000000
/-! the law's boxes -/
namespace K27
open PySem PySem.Spec PyProof.Rows L2 StX RZ MyR
/-- pairs of a box and what is left, at addresses -/
abbrev PI2 := Addr × Addr × List Nat × Nat
def PW (H : Hp) (ps : List PI2) : Prop := ∀ e ∈ ps, H e.1 = some (.tup [.ref e.2.1, .int (e.2.2.2 : Nat)]) ∧ H e.2.1 = some (tp (bI e.2.2.1))
theorem PW.same {H H' : Hp} {ps : List PI2} (h : PW H ps) (s : Same H H') : PW H' ps := fun e he => ⟨s _ _ (h e he).1, s _ _ (h e he).2⟩
theorem PW.upd {H : Hp} {ps : List PI2} {a : Addr} {xs ys : List V} (h : PW H ps) (ha : H a = some (.lst xs)) : PW (L2.upd H a (.lst ys)) ps := fun e he => by
  obtain ⟨h1, h2⟩ := h e he
  refine ⟨?_, ?_⟩
  · rw [upd_ne fun z => by rw [z, ha] at h1; cases h1]
    exact h1
  · rw [upd_ne fun z => by rw [z, ha] at h2; cases h2]
    exact h2
theorem PW.app {H : Hp} {ps qs : List PI2} (h : PW H ps) (k : PW H qs) : PW H (ps ++ qs) := fun e he => by
  rcases List.mem_append.mp he with z | z
  · exact h e z
  · exact k e z
abbrev rf (ps : List PI2) : List V := ps.map fun e => V.ref e.1
abbrev dt (ps : List PI2) : List (List Nat × Nat) := ps.map fun e => e.2.2
theorem rf_app (ps qs : List PI2) : rf (ps ++ qs) = rf ps ++ rf qs := List.map_append
theorem dt_app (ps qs : List PI2) : dt (ps ++ qs) = dt ps ++ dt qs := List.map_append
theorem Same.upd1 {H H' : Hp} {a : Addr} {o : HO} (s : Same H H') (n : H a = none) : Same H (L2.upd H' a o) := fun b u e => by
  rw [upd_ne fun z => by rw [z, n] at e; cases e]
  exact s _ _ e
theorem Same.none {H H' : Hp} {a : Addr} (s : Same H H') (n : H' a = none) : H a = none := by
  cases z : H a with
  | none => rfl
  | some o => rw [s _ _ z] at n; cases n
theorem bI_last {b : List Nat} (c : Nat) (h : b ≠ []) : atI ((bI b).map V.int) (-1) = some (V.int ((hiL b c : Nat) : Int)) := by
  obtain ⟨b', x, rfl⟩ : ∃ b' x, b = b' ++ [x] := ⟨b.dropLast, b.getLast h, (List.dropLast_concat_getLast h).symm⟩
  have e : (bI (b' ++ [x])).map V.int = (bI b').map V.int ++ [V.int (x : Int)] := by
    unfold bI
    rw [List.map_append, List.map_append]
    rfl
  rw [e, atI_last]
  unfold hiL
  rw [List.getLast?_append]
  rfl
theorem cat_num (b : List Nat) (v : Nat) (z : Int) (h : z = (v : Int)) : bI b ++ [z] = bI (b ++ [v]) := by
  subst h
  unfold bI
  rw [List.map_append]
  rfl
theorem tol_take (L : List (List Nat × Nat)) (j : Nat) (b : List Nat) (k : Nat) (h : L[j]? = some (b, k)) : tol (L.take (j + 1)) = tol (L.take j) ++ if k = 0 then [stripN b] else [] := by
  rw [List.take_add_one, h, tol_app]
  congr 1
  unfold tol
  show List.map _ (List.filter _ [(b, k)]) = _
  by_cases c : k = 0
  · rw [List.filter_cons_of_pos (by simpa using c), if_pos c]
    rfl
  · rw [List.filter_cons_of_neg (by simpa using c), if_neg c]
    rfl
theorem strip_take (b : List Nat) (j n : Nat) (h : b[j]? = some n) : stripN (b.take (j + 1)) = stripN (b.take j) ++ if 0 < n then [n] else [] := by
  rw [List.take_add_one, h, strip_app]
  congr 1
  show List.filter _ [n] = _
  by_cases c : 0 < n
  · rw [List.filter_cons_of_pos (by simpa using c), if_pos c]
    rfl
  · rw [List.filter_cons_of_neg (by simpa using c), if_neg c]
    rfl
section
variable {P : Program} {w : World} {K : PySem.W.Frag} {mg : Str → Option Value} {base : Heap}
def spLBoxes : Sp := fun vs H Q _ => ∃ (l r c : Nat), vs = [.int l, .int r, .int c] ∧ r < 7 ∧ c < 7 ∧ l < r * c + 2 ∧ ∀ t as H', Same H H' → H' t = some (.lst (as.map V.ref)) → RB H' as (D r c l) → Q (.ref t) H'
theorem ok_law_boxes (T : Facts K mg) : FnOk P w K mg base CX0 1 T.f_law_boxes T.fd_law_boxes ["_law_weight", "_law_parts", "_law_most"] spLBoxes := by
  refine T.F_law_boxes.ok sc_law_boxes (fun vs H Q E h => ?_) (fun cdv A outer s H vs Q E hr h => ?_)
  · obtain ⟨l, r, c, rfl, _⟩ := h
    rfl
  · obtain ⟨l, r, c, rfl, hr7, hc7, hl, q⟩ := h
    refine ⟨_, (PSs.nox (pss_cons (ps_set (i := 3) sc_law_boxes.nd rfl (.inl rfl) (pe_lst (pa_cons (pe_tup (pa_cons (pe_tup pa_nil) (pa_cons (pv 0) pa_nil))) pa_nil)))
    (pss_cons (ps_for PassesOwn.never (by rfl) (pi_range1 (by rfl) T.z_range (pa_cons (pv 1) pa_nil)) (pg_name (i := 4) sc_law_boxes.nd rfl (.inl rfl))
      (pss_cons (ps_set (i := 5) sc_law_boxes.nd rfl (.inl rfl) (pe_lst pa_nil))
      (pss_cons (ps_for PassesOwn.never (by rfl) (pi_list (pv 3)) (pg_tup (by rfl) (pgs_cons (pg_name (i := 6) sc_law_boxes.nd rfl (.inr rfl)) (pgs_cons (pg_name (i := 7) sc_law_boxes.nd rfl (.inr rfl)) pgs_nil)))
        (pss_cons (ps_set (i := 8) sc_law_boxes.nd rfl (.inl rfl) (pe_ifExp (pt_cmpR (op_neD (hu64 hr)) (pv 6) (pe_tup pa_nil) (nomark _)) (pe_ix ix_tup (pv 6) (pe_un un_neg pe_int) (fun _ _ => rfl)) (pv 2)))
        (pss_one (ps_expr (pe_bm PySem.F.plainAttrs_list PySem.F.slot_list_extend PySem.F.type_list_extend mt_extend (pv 5) (pa_cons (pe_lc (own := [("_law_value", 9)]) (g := (gName 9)) (tt := tYes) (by rfl) sc_law_boxes.nd (pi_range1 (by rfl) T.z_range (pa_cons (pe_op op_add (pe_callB (call_min2 (by rfl)) (by rfl) T.z_min (by decide +kernel) (pa_cons (pv 8) (pa_cons (pv 7) pa_nil))) pe_int) pa_nil)) (blkOk_by (N := N_law_boxes) (sc := defScope s_law_boxes) (by decide +kernel)) (fun _ _ _ _ _ => (pg_name (i := 9) sc_law_boxes.nd rfl (.inl rfl))) (fun _ _ _ _ _ => pts_nil) (fun _ _ _ _ _ => (pe_tup (pa_cons (pe_op (op_catA : OpR _ _ (rCatA K)) (pv 6) (pe_tup (pa_cons (pv 9) pa_nil))) (pa_cons (pe_op op_sub (pv 7) (pv 9)) pa_nil))))) pa_nil))))))
      (pss_one (ps_set (i := 3) sc_law_boxes.nd rfl (.inl rfl) (pe_callTy call_list_of (by rfl) T.z_list (by decide +kernel) (pa_cons (pv 5) pa_nil)))))))
    (pss_cons (ps_setLc (i := 10) (own := [("_law_box_here", 6), ("_law_left", 7)]) (g := (gTup K 2 (gCons (gName 6) (gCons (gName 7) gNil)))) rfl sc_law_boxes.nd rfl rfl (sw_true rfl rfl rfl (by decide +kernel)) (pi_list (pv 3)) (blkOk_by (N := N_law_boxes) (sc := defScope s_law_boxes) (by decide +kernel)) (fun _ _ _ _ _ => (pg_tup (by rfl) (pgs_cons (pg_name (i := 6) sc_law_boxes.nd rfl (.inl rfl)) (pgs_cons (pg_name (i := 7) sc_law_boxes.nd rfl (.inl rfl)) pgs_nil)))) (fun _ _ _ _ _ => (pts_one (pt_cmpR op_eq (pv 7) pe_int (nomark _)))) (fun _ _ _ _ _ => (pe_tupleOf (by rfl) T.z_tuple (pe_lc (own := [("_law_value", 9)]) (g := (gName 9)) (by rfl) sc_law_boxes.nd (pi_tup (pv 6) : PI _ _ _ (iTup K _)) (blkOk_by (N := N_law_boxes) (sc := relS _ (defScope s_law_boxes)) (by decide +kernel)) (fun _ _ _ _ _ => (pg_name (i := 9) sc_law_boxes.nd rfl (.inl rfl))) (fun _ _ _ _ _ => (pts_one (pt_cmpR op_gt (pv 9) pe_int (nomark _)))) (fun _ _ _ _ _ => (pv 9))) : PE _ _ (tThen _ (kTup K)))))
    (pss_one (ps_ret (pe_revL (pe_callB (TupS.cr_sortedS (by rfl)) (by rfl) T.z_sorted (by decide +kernel) (pa_cons (pe_callTy (cr_setOfT (by rfl) (hu64 hr)) (by rfl) T.z_set (by decide +kernel) (pa_cons (pv 10) pa_nil)) pa_nil))))))))), ?_⟩
    refine ⟨(show 0 ≤ sizeLine from Nat.zero_le _), fun b0 n0 => gen_upd H b0 (tp []) n0 fun H1 s1 e1 => ⟨_, rfl, sz2, fun t0 m0 => gen_upd H1 t0 (.tup [.ref b0, .int l]) m0 fun H2 s2 e2 => ⟨sz1, fun F nF => gen_upd H2 F (.lst [.ref t0]) nF fun H3 s3 e3 => ?_⟩⟩⟩
    refine ⟨_, rfl, (r : Int), rfl, by omega, by omega, for_range (n := ((r : Int)).toNat) (fun i σ H' => ∃ (F' : Addr) (ps : List PI2) (y4 y5 y6 y7 y8 y9 : Option V), σ = [some (.int l), some (.int r), some (.int c), some (.ref F'), y4, y5, y6, y7, y8, y9, none] ∧ Same H H' ∧ H' F' = some (.lst (rf ps)) ∧ PW H' ps ∧ dt ps = LF c i [([], l)]) ⟨F, [(t0, b0, [], l)], none, none, none, none, none, none, rfl, s1.trans (s2.trans s3), e3, fun e he => ?_, rfl⟩ (fun i σ H' hi hP => ?_) (fun σ H' hP => ?_)⟩
    · rw [List.mem_singleton.mp he]
      exact ⟨s3 _ _ e2, (s2.trans s3) _ _ e1⟩
    · obtain ⟨F', ps, y4, y5, y6, y7, y8, y9, rfl, sH, hF, hps, edt⟩ := hP
      have hi2 : i < r := by omega
      obtain ⟨lf1, lf2⟩ := LF_len c i l
      obtain ⟨lf3, _⟩ := LF_len c (i + 1) l
      have c7 : ∀ j, j ≤ 6 → (c + 1) ^ j ≤ 117649 := fun j hj => Nat.le_trans (Nat.pow_le_pow_left (show c + 1 ≤ 7 by omega) j) (Nat.le_trans (Nat.pow_le_pow_right (by decide) hj) (by decide))
      have b1 := c7 i (by omega)
      have b2 := c7 (i + 1) (by omega)
      refine ⟨(show 0 ≤ sizeLine from Nat.zero_le _), fun L nL => gen_upd H' L (.lst []) nL fun H4 s4 e4 => ?_⟩
      have hF4 := s4 _ _ hF
      have hps4 := hps.same s4
      have FL : F' ≠ L := fun z => by rw [z, nL] at hF; cases hF
      refine ⟨_, rfl, F', rfl, ⟨_, SqL.of hF4⟩, for_list (xs := rf ps) (fun j σ H5 => ∃ (qs : List PI2) (y6 y7 y8 y9 : Option V), σ = [some (.int l), some (.int r), some (.int c), some (.ref F'), some (.int (0 + (i : Int))), some (.ref L), y6, y7, y8, y9, none] ∧ Same H' H5 ∧ H5 L = some (.lst (rf qs)) ∧ PW H5 qs ∧ dt qs = ((LF c i [([], l)]).take j).flatMap (stp c)) ⟨[], y6, y7, y8, y9, rfl, s4, e4, fun e he => (nomatch he), rfl⟩ (fun j σ H5 _ hP => ?_) (fun j x σ H5 hx hP => ?_) (fun σ H5 hP => ?_)⟩
      · obtain ⟨qs, _, _, _, _, _, s5, _⟩ := hP
        exact SqL.of (s5 _ _ hF)
      · obtain ⟨qs, y6, y7, y8, y9, rfl, s5, hL5, hqs, edq⟩ := hP
        rw [List.getElem?_map] at hx
        obtain ⟨e, he, rfl⟩ := Option.map_eq_some_iff.mp hx
        obtain ⟨tA, bA, b, k⟩ := e
        have hlf : (LF c i [([], l)])[j]? = some (b, k) := by
          rw [← edt, List.getElem?_map, he]
          rfl
        obtain ⟨h1, h2⟩ := (hps.same s5) _ (List.mem_of_getElem? he)
        have h2 : H5 bA = some (tp (bI b)) := h2
        obtain ⟨bb1, bb2, bb3⟩ := lf2 (b, k) (List.mem_of_getElem? hlf)
        have bb2 : b.length = i := bb2
        have bb3 : k ≤ l := bb3
        refine ⟨tA, _, rfl, SqT.of h1, rfl, _, _, rfl, _, _, rfl, rfl, ?_⟩
        apply meetI fun g H6 => g = ((hiL b c : Nat) : Int) ∧ Same H5 H6
        · intro kk
          refine ⟨_, rfl, (show 0 ≤ sizeLine from Nat.zero_le _), fun z nz => gen_upd H5 z (tp []) nz fun H6 s6 e6 => ne_ints (SqT.of (s6 _ _ h2)) (SqT.of e6) ⟨_, rfl, ?_⟩⟩
          have cs := Classical.em (b ≠ [])
          obtain ⟨g, hg⟩ : ∃ g : Int, g = ((hiL b c : Nat) : Int) := ⟨_, rfl⟩
          refine Or.elim cs (fun cb => ?_) fun cb => ?_
          · rw [decide_eq_false (fun z => cb (bI_nil.mp z))]
            have e := bI_last c cb
            rw [← hg] at e
            exact iteT ⟨_, rfl, _, rfl, bA, _, -1, .int g, rfl, rfl, SqT.of (s6 _ _ h2), e, kk g H6 ⟨hg, s6⟩⟩
          · rw [decide_eq_true (bI_nil.mpr (Classical.not_not.mp cb))]
            exact iteF ⟨_, rfl, kk (c : Int) H6 ⟨by rw [Classical.not_not.mp cb]; rfl, s6⟩⟩
        rintro g H6 ⟨rfl, s6⟩
        obtain ⟨g, hg⟩ : ∃ g, g = hiL b c := ⟨_, rfl⟩
        rw [← hg]
        have g7 : g ≤ 6 := by
          rw [hg]
          unfold hiL
          cases q : b.getLast? with
          | none => show c ≤ 6; omega
          | some x => have := bb1 x (List.mem_of_getLast? q); show x ≤ 6; omega
        have emin : (if (k : Int) < (g : Int) then (k : Int) else (g : Int)) = ((min g k : Nat) : Int) := by
          by_cases z : (k : Int) < (g : Int)
          · rw [if_pos z, Nat.min_eq_right (by omega)]
          · rw [if_neg z, Nat.min_eq_left (by omega)]
        have s56 := s5.trans s6
        have hL6 := s6 _ _ hL5
        have h26 := s6 _ _ h2
        refine ⟨_, rfl, .inl ⟨rfl, _, SqL.of hL6⟩, _, rfl, _, rfl, _, _, rfl, ?_⟩
        rw [emin]
        refine ⟨_, _, rfl, rfl, _, rfl, by omega, by omega, fun D hD => ?_⟩
        have en : (((min g k : Nat) : Int) + 1).toNat = min g k + 1 := by omega
        rw [en]
        refine lc_range (n := min g k + 1) (fun v H' => ∃ ws : List PI2, Same H6 H' ∧ H' D = some (.lst (rf ws)) ∧ PW H' ws ∧ dt ws = (List.range v).map fun v => (b ++ [v], k - v)) ⟨[], same_upd0 hD, upd_same, fun e he => (nomatch he), rfl⟩ (fun v H7 hv hP => ?_) (fun H7 hP => ?_)
        · obtain ⟨ws, s7, hD7, hws, edw⟩ := hP
          have h27 := s7 _ _ h26
          refine ⟨rfl, _, rfl, _, rfl, sz1, fun z nz => gen_upd H7 z (tp [0 + (v : Int)]) nz fun H8 s8 e8 => cat_rows (s8 _ _ h27) e8 (by rw [List.length_map, bb2]; show i + 1 ≤ 1000; omega) fun p9 H9 s9 e9 => ⟨_, rfl, _, rfl, _, _, rfl, rfl, sz2, fun q9 nq => gen_upd H9 q9 (.tup [.ref p9, .int ((k : Int) - (0 + (v : Int)))]) nq fun Ha sa ea => ?_⟩⟩
          rw [cat_num b v _ (Int.zero_add _)] at e9
          have s7a := s8.trans (s9.trans sa)
          have lws : ws.length = v := by
            have := congrArg List.length edw
            rw [List.length_map, List.length_map, List.length_range] at this
            exact this
          refine ⟨_, s7a _ _ hD7, by rw [List.length_map, lws]; exact small1000 (by omega), ws ++ [(q9, p9, b ++ [v], k - v)], ?_, ?_, ?_, ?_⟩
          · exact Same.upd1 (s7.trans s7a) hD
          · rw [upd_same, rf_app]
            rfl
          · refine PW.upd (xs := rf ws) ((hws.same s7a).app fun e he => ?_) (s7a _ _ hD7)
            rw [List.mem_singleton.mp he]
            refine ⟨?_, sa _ _ e9⟩
            rw [ea]
            have kv : v ≤ k := by omega
            show some (HO.tup [V.ref p9, V.int ((k : Int) - (0 + (v : Int)))]) = some (HO.tup [V.ref p9, V.int ((k - v : Nat) : Int)])
            rw [show ((k - v : Nat) : Int) = (k : Int) - (0 + (v : Int)) by omega]
          · rw [dt_app, edw, List.range_succ, List.map_append]
            rfl
        · obtain ⟨ws, s7, hD7, hws, edw⟩ := hP
          have hL7 := s7 _ _ hL6
          have ext : ((LF c i [([], l)]).take (j + 1)).flatMap (stp c) = dt (qs ++ ws) := by
            rw [List.take_add_one, hlf, List.flatMap_append, dt_app, edq, edw]
            congr 1
            show stp c (b, k) ++ [] = _
            rw [List.append_nil]
            unfold stp
            rw [hg]
          have lqs : (rf qs).length + (rf ws).length ≤ 117649 := by
            have h1 : (rf qs).length + (rf ws).length = (dt (qs ++ ws)).length := by rw [dt_app, List.length_append, List.length_map, List.length_map, List.length_map, List.length_map]
            have h2 : (((LF c i [([], l)]).take (j + 1)).flatMap (stp c)).length ≤ ((LF c i [([], l)]).flatMap (stp c)).length := by
              conv => rhs; rw [← List.take_append_drop (j + 1) (LF c i [([], l)]), List.flatMap_append, List.length_append]
              omega
            rw [h1, ← ext]
            exact Nat.le_trans h2 (Nat.le_trans lf3 b2)
          refine ⟨L, D, _, _, rfl, rfl, hL7, hD7, by rw [sizeLine_eq]; omega, qs ++ ws, _, _, _, _, rfl, ?_, ?_, ?_, ext.symm⟩
          · exact Same.upd1 (s56.trans s7) nL
          · rw [upd_same, rf_app]
          · exact PW.upd (((hqs.same s6).same s7).app hws) hL7
      · obtain ⟨qs, y6, y7, y8, y9, rfl, s5, hL5, hqs, edq⟩ := hP
        have lps : (rf ps).length = (LF c i [([], l)]).length := by rw [← edt, List.length_map, List.length_map]
        rw [lps, List.take_length, ← LF_S] at edq
        refine ⟨_, rfl, L, _, rfl, .inl (SqL.of hL5), fun F2 nF2 => ⟨F2, qs, _, _, _, _, _, _, rfl, ?_, upd_same, hqs.same (same_upd0 nF2), edq⟩⟩
        exact sH.trans (s5.trans (same_upd0 nF2))
    · obtain ⟨F', ps, y4, y5, y6, y7, y8, y9, rfl, sH, hF, hps, edt⟩ := hP
      rw [show ((r : Int)).toNat = r from rfl] at edt
      have bok := bxOk hr7 hc7 hl
      have law := law_boxes r c l
      have b7 : ∀ j, j ≤ 6 → (c + 1) ^ j ≤ 117649 := fun j hj => Nat.le_trans (Nat.pow_le_pow_left (show c + 1 ≤ 7 by omega) j) (Nat.le_trans (Nat.pow_le_pow_right (by decide) hj) (by decide))
      obtain ⟨lf1, lf2⟩ := LF_len c r l
      have lps : ps.length = (LF c r [([], l)]).length := by rw [← edt, List.length_map]
      refine ⟨_, rfl, F', rfl, ⟨_, SqL.of hF⟩, fun D hD => lc_list (xs := rf ps) (fun j H2 => ∃ as : List Addr, Same H' H2 ∧ H2 D = some (.lst (as.map V.ref)) ∧ RB H2 as (tol ((LF c r [([], l)]).take j))) ⟨[], same_upd0 hD, upd_same, True.intro⟩ (fun j H2 _ hP => ?_) (fun j x H2 hx hP => ?_) (fun H2 hP => ?_)⟩
      · obtain ⟨_, s2, _⟩ := hP
        exact SqL.of (s2 _ _ hF)
      · obtain ⟨as, s2, hD2, hrb⟩ := hP
        rw [List.getElem?_map] at hx
        obtain ⟨e, he, rfl⟩ := Option.map_eq_some_iff.mp hx
        obtain ⟨tA, bA, b, k⟩ := e
        have hlf : (LF c r [([], l)])[j]? = some (b, k) := by
          rw [← edt, List.getElem?_map, he]
          rfl
        obtain ⟨h1, h2⟩ := (hps.same s2) _ (List.mem_of_getElem? he)
        have h2 : H2 bA = some (tp (bI b)) := h2
        have bb2 : b.length = r := (lf2 (b, k) (List.mem_of_getElem? hlf)).2.1
        have tt := tol_take _ _ _ _ hlf
        refine ⟨tA, _, rfl, SqT.of h1, rfl, _, _, rfl, _, _, rfl, rfl, rfl, _, rfl, rfl, _, rfl, ?_⟩
        by_cases k0 : k = 0
        · rw [decide_eq_true (show V.int ((k : Nat) : Int) = V.int 0 by rw [k0]; rfl)]
          rw [if_pos k0] at tt
          refine iteT ⟨_, rfl, bA, rfl, ⟨_, SqT.of h2⟩, fun D2 nD2 => lc_tup (xs := (bI b).map V.int) (fun m H3 => Same H2 H3 ∧ H3 D2 = some (ls (bI (stripN (b.take m))))) ⟨same_upd0 nD2, upd_same⟩ (fun m H3 _ hP => SqT.of (hP.1 _ _ h2)) (fun m x H3 hx hP => ?_) (fun H3 hP => ?_)⟩
          · obtain ⟨s3, l3⟩ := hP
            obtain ⟨n, hn, rfl⟩ := bI_get hx
            have st := strip_take b m n hn
            refine ⟨rfl, _, rfl, _, _, rfl, rfl, _, rfl, ?_⟩
            by_cases cn : 0 < n
            · rw [decide_eq_true (show (0 : Int) < (n : Int) by omega)]
              rw [if_pos cn] at st
              refine iteT ⟨_, rfl, _, l3, ?_, fun a o e => ?_, ?_⟩
              · rw [bI_len]
                have h1 := List.length_filter_le (fun x => decide (0 < x)) (b.take m)
                rw [List.length_take] at h1
                exact small1000 (show (stripN (b.take m)).length ≤ 1000 by unfold stripN; omega)
              · rw [upd_ne (ne_of_none e nD2)]
                exact s3 _ _ e
              · rw [upd_same, st, ls_snoc]
            · rw [decide_eq_false (show ¬ (0 : Int) < (n : Int) by omega)]
              rw [if_neg cn, List.append_nil] at st
              exact iteF ⟨s3, by rw [st]; exact l3⟩
          · obtain ⟨s3, l3⟩ := hP
            rw [bI_len, List.take_length] at l3
            refine .inl ⟨D2, _, rfl, SqL.of l3, fun p np => gen_upd H3 p (tp (bI (stripN b))) np fun H4 s4 e4 => ?_⟩
            have s34 := s3.trans s4
            have las : as.length ≤ 117649 := by
              have h1 := RB.len hrb
              have h2 : (tol ((LF c r [([], l)]).take j)).length ≤ (LF c r [([], l)]).length := by
                unfold tol
                rw [List.length_map]
                refine Nat.le_trans (List.length_filter_le _ _) ?_
                rw [List.length_take]
                exact Nat.min_le_right _ _
              have := b7 r (by omega)
              omega
            refine ⟨_, s34 _ _ hD2, by rw [List.length_map, sizeLine_eq]; omega, as ++ [p], ?_, ?_, ?_⟩
            · exact Same.upd1 (s2.trans s34) hD
            · rw [upd_same, List.map_append]
              rfl
            · rw [tt]
              refine RB.keep (fun a' l' e => ?_) (RB.snoc (hrb.same s34) e4)
              rw [upd_ne fun z => by rw [z] at e; rw [s34 _ _ hD2] at e; cases e]
              exact e
        · rw [decide_eq_false (show ¬ V.int ((k : Nat) : Int) = V.int 0 from fun z => k0 (by have := V.int.inj z; omega))]
          rw [if_neg k0, List.append_nil] at tt
          exact iteF ⟨as, s2, hD2, by rw [tt]; exact hrb⟩
      · obtain ⟨as, s2, hD2, hrb⟩ := hP
        rw [List.length_map, lps, List.take_length, law] at hrb
        have s2 : Same H' H2 := s2
        obtain ⟨ks, k1, k2, k3⟩ := hrb.keys
        have lks : ks.length = (K27.D r c l).length := by
          have := congrArg List.length k2
          rw [List.length_map, List.length_map, List.length_reverse] at this
          exact this
        have ea : as.map V.ref = ks.map fun p => V.ref p.1 := by rw [← k1, List.map_map]; rfl
        rw [ea] at hD2
        refine ⟨_, rfl, D, ks, rfl, SqL.of hD2, fun p hp => SqT.of (k3 p hp), by rw [lks]; exact bok.few, fun a L na sub all => ?_⟩
        have key2 : ∀ p ∈ L, H2 p.1 = some (tp p.2) := fun p hp => k3 p (sub p hp)
        refine gen_upd H2 a (SetTO P w a L) na fun H3 s3 e3 => ?_
        refine ⟨a, L, rfl, e3, fun p hp => SqT.of (s3 _ _ (key2 p hp)), fun nd two p hp z => ?_, fun L' p pm nd pw np => ?_⟩
        · have inD : ∀ x ∈ L, ∃ b ∈ K27.D r c l, x.2 = bI b := fun x hx => by
            have : x.2 ∈ ks.map (·.2) := List.mem_map.mpr ⟨x, sub x hx, rfl⟩
            rw [k2] at this
            obtain ⟨b, hb, e⟩ := List.mem_map.mp this
            exact ⟨b, List.mem_reverse.mp hb, e.symm⟩
          obtain ⟨b, hb, eb⟩ := inD p hp
          by_cases d2 : 2 ≤ (K27.D r c l).length
          · exact bok.ne d2 b hb (bI_nil.mp (by rw [← eb]; exact z))
          · match L, two with
            | x :: y :: _, _ =>
              obtain ⟨bx, hbx, ebx⟩ := inD x (by simp)
              obtain ⟨by', hby, eby⟩ := inD y (by simp)
              have exy : bx = by' := by
                match hdd : K27.D r c l, d2 with
                | [], _ => rw [hdd] at hbx; cases hbx
                | [u], _ =>
                  rw [hdd] at hbx hby
                  rw [List.mem_singleton.mp hbx, List.mem_singleton.mp hby]
                | _ :: _ :: _, d2 => exact absurd (by rw [List.length_cons, List.length_cons]; omega) d2
              have n1 := (List.pairwise_cons.mp nd).1 y.2 (.head _)
              exact n1 (show x.2 = y.2 by rw [ebx, eby, exy])
        · have pe : (L'.map (·.2)).Perm ((K27.D r c l).reverse.map bI) := by
            refine (List.perm_ext_iff_of_nodup nd ?_).mpr fun x => ⟨fun hx => ?_, fun hx => ?_⟩
            · refine List.pairwise_map.mpr ((List.pairwise_reverse.mpr (bok.nodup.imp fun h => Ne.symm h)).imp fun {x y} h e => h ?_)
              exact List.map_inj_right (f := Int.ofNat) (fun _ _ e => Int.ofNat.inj e) |>.mp e
            · obtain ⟨q1, hq, rfl⟩ := List.mem_map.mp hx
              rw [← k2]
              exact List.mem_map.mpr ⟨q1, sub q1 (pm.mem_iff.mp hq), rfl⟩
            · rw [← k2] at hx
              obtain ⟨q1, hq, rfl⟩ := List.mem_map.mp hx
              obtain ⟨q2, hq2, e2⟩ := List.mem_map.mp (all q1 hq)
              exact List.mem_map.mpr ⟨q2, pm.mem_iff.mpr hq2, e2⟩
          have so1 : (L'.map (·.2)).Pairwise fun x y => HT.lexLt y x = false := List.pairwise_map.mpr pw
          have so2 : ((K27.D r c l).reverse.map bI).Pairwise fun x y => HT.lexLt y x = false := List.pairwise_map.mpr (bok.asc.imp fun {x y} h => by rw [nlt_int]; exact h)
          have eq := pe.eq_of_pairwise (fun x y _ _ h k => lex_anti k h) so1 so2
          have s4 := same_upd0 (o := .lst (L'.map fun q => V.ref q.1)) np
          have e4 : (upd H3 p (.lst (L'.map fun q => V.ref q.1))) p = some (.lst (L'.map fun q => V.ref q.1)) := upd_same
          refine ⟨p, _, rfl, SqL.of e4, fun u nu => ?_⟩
          have s5 := same_upd0 (o := .lst (L'.map fun q => V.ref q.1).reverse) nu
          have er : (L'.map fun q => V.ref q.1).reverse = ((L'.reverse).map (·.1)).map V.ref := by
            rw [List.map_map, List.map_reverse]
            rfl
          have s25 := s3.trans (s4.trans s5)
          refine q u (L'.reverse.map (·.1)) _ (sH.trans (s2.trans s25)) (by rw [upd_same, er]) (RB.of _ _ ?_ fun p hp => s25 _ _ (key2 p (pm.mem_iff.mp (List.mem_reverse.mp hp))))
          rw [List.map_reverse, eq, List.map_reverse, List.reverse_reverse]
end
end K27

set_option Elab.async false
set_option linter.all false
set_option maxRecDepth 100000
set_option maxHeartbeats 2000000
namespace K27
open PySem PySem.Spec PyProof.Rows L2 StX RZ MyR
/-- the ints of a tuple in the heap -/
def kH (H : Hp) : V → List Int
  | .ref a => match H a with
    | some (.tup l) => l.map fun x => match x with | .int i => i | _ => 0
    | _ => []
  | _ => []
theorem kH_tp {H : Hp} {a : Addr} {ns : List Int} (h : H a = some (tp ns)) : kH H (.ref a) = ns := by
  simp only [kH, h, tp, List.map_map]
  exact List.map_id ns
theorem RB.kH {H : Hp} : ∀ {as : List Addr} {bs : List (List Nat)}, RB H as bs → (as.map V.ref).map (K27.kH H) = bs.map bI
  | [], [], _ => rfl
  | a :: as, b :: bs, h => by
    rw [List.map_cons, List.map_cons, List.map_cons, RB.kH h.2, kH_tp h.1]
theorem RB.mem {H : Hp} : ∀ {as : List Addr} {bs : List (List Nat)}, RB H as bs → ∀ a ∈ as, ∃ b ∈ bs, H a = some (tp (bI b))
  | [], [], _, a, ha => (nomatch ha)
  | x :: as, b :: bs, h, a, ha => by
    rcases List.mem_cons.mp ha with e | e
    · rw [e]
      exact ⟨b, .head _, h.1⟩
    · obtain ⟨c, hc, k⟩ := RB.mem h.2 a e
      exact ⟨c, .tail _ hc, k⟩
theorem refs_of_perm {as : List Addr} {ys : List V} (h : ys.Perm (as.map V.ref)) : ∃ zs : List Addr, ys = zs.map V.ref ∧ ∀ z ∈ zs, z ∈ as := by
  have key : ∀ l : List V, (∀ x ∈ l, x ∈ as.map V.ref) → ∃ zs : List Addr, l = zs.map V.ref ∧ ∀ z ∈ zs, z ∈ as := by
    intro l
    induction l with
    | nil => intro _; exact ⟨[], rfl, fun z hz => (nomatch hz)⟩
    | cons x l ih =>
      intro hl
      obtain ⟨zs, e, k⟩ := ih fun y hy => hl y (.tail _ hy)
      obtain ⟨a, ha, rfl⟩ := List.mem_map.mp (hl x (.head _))
      refine ⟨a :: zs, by rw [List.map_cons, e], fun z hz => ?_⟩
      rcases List.mem_cons.mp hz with q | q
      · rw [q]; exact ha
      · exact k z q
  exact key ys fun x hx => h.mem_iff.mp hx
theorem script_Sx {K : PySem.W.Frag} {d a : Addr} {H H' : Hp} {o : HO} {xs : List V} (s : Sx d (upd H d o) H') (n : H d = none) (h : SqL K H a xs) : SqL K H' a xs := by
  rcases h with (h | ⟨u, h⟩) | h
  · have ne : a ≠ d := ne_of_none h n
    exact .inl (.inl (s a _ ne (by rw [upd_ne ne]; exact h)))
  · have ne : a ≠ d := ne_of_none h n
    exact .inl (.inr ⟨u, s a _ ne (by rw [upd_ne ne]; exact h)⟩)
  · exact .inr h
/-- the told boxes, as data -/
def toldD : List PyData := [.list (TB [[3, 1], [2, 2], [2, 1, 1]]), .list (TB [[]]), .tuple ((bI (tn [3, 1])).map PyData.int), .tuple ((bI (tn [])).map PyData.int), .tuple ((bI (lf [3, 1] 2 3)).map PyData.int), .tuple ((bI (lf [] 2 3)).map PyData.int)]
theorem sz0 : 0 ≤ sizeLine := Nat.zero_le _
theorem D334 : D 3 3 4 = [[3, 1], [2, 2], [2, 1, 1]] := by decide +kernel
theorem D050 : D 0 5 0 = [[]] := by decide +kernel
theorem D6424 : D 6 4 24 = [[4, 4, 4, 4, 4, 4]] := by decide +kernel
theorem D225 : D 2 2 5 = [] := by decide +kernel
theorem bx31 : Bx [3, 1] := isBx_ok (by decide +kernel)
theorem bx21 : Bx [2, 1] := isBx_ok (by decide +kernel)
section
variable {P : Program} {w : World} {K : PySem.W.Frag} {mg : Str → Option Value} {base : Heap}
def spLaw (K : PySem.W.Frag) : Sp := fun vs H Q _ => ∃ (a : Addr) (ns : List Int), vs = [.ref a] ∧ SqL K H a (ns.map V.int) ∧ ns.length ≤ 63 ∧ ∀ H', Q (.bl true) H'
theorem ok_law (T : Facts K mg) : FnOk P w K mg base CX0 8 T.f_law T.fd_law ["_law_script"] (spLaw K) := by
  have G_law_dice := ok_law_dice (P := P) (w := w) (base := base) T
  have G_law_roll : FnOk P w K mg base CX0 1 T.f_law_roll T.fd_law_roll ["_law_dice_here", "_law_total"] spRoll2 := (ok_law_roll T).imp roll2
  have G_boxes := ok_boxes (P := P) (w := w) (base := base) T
  have G_law_boxes := ok_law_boxes (P := P) (w := w) (base := base) T
  have G_box_count := ok_box_count (P := P) (w := w) (base := base) T
  have G_turned_box := ok_turned_box (P := P) (w := w) (base := base) T
  have G_left_box := ok_left_box (P := P) (w := w) (base := base) T
  have G_law_box_right := ok_law_box_right (P := P) (w := w) (base := base) T
  refine T.F_law.ok sc_law (fun vs H Q E h => ?_) (fun cdv A outer s H vs Q E hr h => ?_)
  · obtain ⟨a, ns, rfl, _⟩ := h
    rfl
  · obtain ⟨a, ns, rfl, ha, hn, q⟩ := h
    refine ⟨_, (PSs.nox (pss_cons (ps_for PassesOwn.never (by rfl) (pi_range1 (by rfl) T.z_range (pa_cons (pe_callB (call_max2 (by rfl)) (by rfl) T.z_max (by decide +kernel) (pa_cons pe_int (pa_cons (pe_callB (call_min2 (by rfl)) (by rfl) T.z_min (by decide +kernel) (pa_cons pe_int (pa_cons (pe_callB call_len_seq (by rfl) T.z_len (by decide +kernel) (pa_cons (pv 0) pa_nil)) pa_nil))) pa_nil))) pa_nil)) (pg_name (i := 1) sc_law.nd rfl (.inl rfl))
      (pss_cons (ps_set (i := 2) sc_law.nd rfl (.inl rfl) (pe_call G_law_dice (hr.mono (by decide)) (by rfl) T.g_law_dice T.F_law_dice.kp T.b_law_dice .nil pass0 (pa_cons (pv 0) (pa_cons (pv 1) pa_nil))))
      (pss_cons (ps_par (i := 3) (j := 4) (by rfl) sc_law.nd rfl rfl (by decide) rfl rfl (pa_cons (pe_call G_law_roll (hr.mono (by decide)) (by rfl) T.g_law_roll T.F_law_roll.kp T.b_law_roll .nil pass0 (pa_cons (pv 2) (pa_cons pe_int pa_nil))) (pa_cons (pe_call G_law_roll (hr.mono (by decide)) (by rfl) T.g_law_roll T.F_law_roll.kp T.b_law_roll .nil pass0 (pa_cons (pv 2) (pa_cons pe_int pa_nil))) pa_nil)) (by rfl))
      (pss_cons (ps_set (i := 5) sc_law.nd rfl (.inl rfl) (pe_call G_law_roll (hr.mono (by decide)) (by rfl) T.g_law_roll T.F_law_roll.kp T.b_law_roll .nil pass0 (pa_cons (pv 2) (pa_cons (pe_op op_add (pe_op op_mul (pv 3) (pv 4)) pe_int) pa_nil))))
      (pss_cons (ps_set (i := 6) sc_law.nd rfl (.inl rfl) (pe_listG (E := E0) (pgen_call G_boxes (hr.mono (by decide)) (by rfl) T.g_boxes T.F_boxes.kp T.b_boxes .nil (pa_cons (pv 5) (pa_cons (pv 3) (pa_cons (pv 4) pa_nil)))) GenIf.passG GenIf.noStop0 (hr.mono (by decide)) (by rfl) T.z_list (by decide +kernel)))
      (pss_cons (ps_if (pw_or (pt_cmpR (op_neD (hu64 hr)) (pv 6) (pe_call G_law_boxes (hr.mono (by decide)) (by rfl) T.g_law_boxes T.F_law_boxes.kp T.b_law_boxes .nil pass0 (pa_cons (pv 5) (pa_cons (pv 3) (pa_cons (pv 4) pa_nil)))) (nomark _)) (pw_or1 (pt_cmpR op_ne (pe_callB call_len_seq (by rfl) T.z_len (by decide +kernel) (pa_cons (pv 6) pa_nil)) (pe_call G_box_count (hr.mono (by decide)) (by rfl) T.g_box_count T.F_box_count.kp T.b_box_count .nil pass0 (pa_cons (pv 5) (pa_cons (pv 3) (pa_cons (pv 4) pa_nil)))) (nomark _)))).pt
        (pss_one (ps_ret pe_bl))
        pss_nil)
      (pss_cons (ps_if (pt_cmpR (op_neD (hu64 hr)) (pe_revL (pe_callB TupS.cr_sortedL (by rfl) T.z_sorted (by decide +kernel) (pa_cons (pe_lc (own := [("_law_box_here", 7)]) (g := (gName 7)) (tt := tYes) (by rfl) sc_law.nd (pi_list (pv 6)) (blkOk_by (N := N_law) (sc := defScope s_law) (by decide +kernel)) (fun _ _ _ _ _ => (pg_name (i := 7) sc_law.nd rfl (.inl rfl))) (fun _ _ _ _ _ => pts_nil) (fun _ _ _ _ _ => (pe_call G_turned_box (hr.mono (by decide)) (by rfl) T.g_turned_box T.F_turned_box.kp T.b_turned_box .nil pass0 (pa_cons (pv 7) pa_nil)))) pa_nil))) (pe_listG (E := E0) (pgen_call G_boxes (hr.mono (by decide)) (by rfl) T.g_boxes T.F_boxes.kp T.b_boxes .nil (pa_cons (pv 5) (pa_cons (pv 4) (pa_cons (pv 3) pa_nil)))) GenIf.passG GenIf.noStop0 (hr.mono (by decide)) (by rfl) T.z_list (by decide +kernel)) (nomark _))
        (pss_one (ps_ret pe_bl))
        pss_nil)
      (pss_one (ps_if (pw_or (pt_not (pt_val (pe_call G_law_box_right (hr.mono (by decide)) (by rfl) T.g_law_box_right T.F_law_box_right.kp T.b_law_box_right .nil pass0 (pa_cons (pv 2) pa_nil)))) (pw_or1 (pt_not (pt_val (pe_call G_law_box_right (hr.mono (by decide)) (by rfl) T.g_law_box_right T.F_law_box_right.kp T.b_law_box_right .nil pass0 (pa_cons (pv 2) pa_nil)))))).pt
        (pss_one (ps_ret pe_bl))
        pss_nil)))))))))
    (pss_cons (ps_set (i := 6) sc_law.nd rfl (.inl rfl) (pe_lst (pa_cons (pe_listG (E := E0) (pgen_call G_boxes (hr.mono (by decide)) (by rfl) T.g_boxes T.F_boxes.kp T.b_boxes .nil (pa_cons pe_int (pa_cons pe_int (pa_cons pe_int pa_nil)))) GenIf.passG GenIf.noStop0 (hr.mono (by decide)) (by rfl) T.z_list (by decide +kernel)) (pa_cons (pe_listG (E := E0) (pgen_call G_boxes (hr.mono (by decide)) (by rfl) T.g_boxes T.F_boxes.kp T.b_boxes .nil (pa_cons pe_int (pa_cons pe_int (pa_cons pe_int pa_nil)))) GenIf.passG GenIf.noStop0 (hr.mono (by decide)) (by rfl) T.z_list (by decide +kernel)) (pa_cons (pe_call G_turned_box (hr.mono (by decide)) (by rfl) T.g_turned_box T.F_turned_box.kp T.b_turned_box .nil pass0 (pa_cons (pe_tup (pa_cons pe_int (pa_cons pe_int pa_nil))) pa_nil)) (pa_cons (pe_call G_turned_box (hr.mono (by decide)) (by rfl) T.g_turned_box T.F_turned_box.kp T.b_turned_box .nil pass0 (pa_cons (pe_tup pa_nil) pa_nil)) (pa_cons (pe_call G_left_box (hr.mono (by decide)) (by rfl) T.g_left_box T.F_left_box.kp T.b_left_box .nil pass0 (pa_cons (pe_tup (pa_cons pe_int (pa_cons pe_int pa_nil))) (pa_cons pe_int (pa_cons pe_int pa_nil)))) (pa_cons (pe_call G_left_box (hr.mono (by decide)) (by rfl) T.g_left_box T.F_left_box.kp T.b_left_box .nil pass0 (pa_cons (pe_tup pa_nil) (pa_cons pe_int (pa_cons pe_int pa_nil)))) pa_nil))))))))
    (pss_cons (ps_if (pt_cmpR (op_neD (hu64 hr)) (pv 6) (pe_lst (pa_cons (pe_lst (pa_cons (pe_tup (pa_cons pe_int (pa_cons pe_int pa_nil))) (pa_cons (pe_tup (pa_cons pe_int (pa_cons pe_int pa_nil))) (pa_cons (pe_tup (pa_cons pe_int (pa_cons pe_int (pa_cons pe_int pa_nil)))) pa_nil)))) (pa_cons (pe_lst (pa_cons (pe_tup pa_nil) pa_nil)) (pa_cons (pe_tup (pa_cons pe_int (pa_cons pe_int (pa_cons pe_int pa_nil)))) (pa_cons (pe_tup pa_nil) (pa_cons (pe_tup (pa_cons pe_int pa_nil)) (pa_cons (pe_tup (pa_cons pe_int (pa_cons pe_int pa_nil))) pa_nil))))))) (nomark _))
      (pss_one (ps_ret pe_bl))
      pss_nil)
    (pss_one (ps_ret (pe_and (pe_cmpR (op_eqD (hu64 hr)) (pe_listG (E := E0) (pgen_call G_boxes (hr.mono (by decide)) (by rfl) T.g_boxes T.F_boxes.kp T.b_boxes .nil (pa_cons pe_int (pa_cons pe_int (pa_cons pe_int pa_nil)))) GenIf.passG GenIf.noStop0 (hr.mono (by decide)) (by rfl) T.z_list (by decide +kernel)) (pe_lst (pa_cons (pe_op op_repT (pe_tup (pa_cons pe_int pa_nil)) pe_int) pa_nil)) (nomark _)) (pe_and (pe_cmpR (op_eqD (hu64 hr)) (pe_listG (E := E0) (pgen_call G_boxes (hr.mono (by decide)) (by rfl) T.g_boxes T.F_boxes.kp T.b_boxes .nil (pa_cons pe_int (pa_cons pe_int (pa_cons pe_int pa_nil)))) GenIf.passG GenIf.noStop0 (hr.mono (by decide)) (by rfl) T.z_list (by decide +kernel)) (pe_lst pa_nil) (nomark _)) (pe_one (pe_cmpR (op_eqD (hu64 hr)) (pe_call G_left_box (hr.mono (by decide)) (by rfl) T.g_left_box T.F_left_box.kp T.b_left_box .nil pass0 (pa_cons (pe_tup (pa_cons pe_int (pa_cons pe_int pa_nil))) (pa_cons pe_int (pa_cons pe_int pa_nil)))) (pe_tup (pa_cons pe_int (pa_cons pe_int pa_nil))) (nomark _))))))))))), ?_⟩
    refine ⟨_, rfl, a, _, rfl, .inl ha, 4, _, rfl, 1, _, rfl, ?_⟩
    rw [List.length_map]
    obtain ⟨n, hn1, hn0⟩ : ∃ n : Int, (if (if ((ns.length : Nat) : Int) < 4 then ((ns.length : Nat) : Int) else 4) > 1 then (if ((ns.length : Nat) : Int) < 4 then ((ns.length : Nat) : Int) else 4) else 1) = n ∧ 0 ≤ n ∧ n ≤ 4 := ⟨_, rfl, by split <;> split <;> omega, by split <;> split <;> omega⟩
    rw [hn1]
    refine ⟨_, rfl, by omega, by omega, for_range (n := n.toNat) (fun i σ H' => ∃ y1 y2 y3 y4 y5 y6, σ = [some (.ref a), y1, y2, y3, y4, y5, y6, none] ∧ SqL K H' a (ns.map V.int)) ⟨none, none, none, none, none, none, rfl, ha⟩ (fun i σ H1 hi hP => ?_) (fun σ H1 hP => ?_)⟩
    · obtain ⟨y1, y2, y3, y4, y5, y6, rfl, h1⟩ := hP
      refine ⟨_, rfl, _, rfl, a, ns, i, ?_, h1, fun d x y z nd => ?_⟩
      · show [V.ref a, V.int (0 + (i : Int))] ++ [] = _
        rw [Int.zero_add]
        rfl
      have D1 : Dc (upd H1 d (dice x y z)) d := ⟨x, y, z, upd_same⟩
      have sx0 : Sx d (upd H1 d (dice x y z)) (upd H1 d (dice x y z)) := Sx.refl _ _
      generalize hH0 : upd H1 d (dice x y z) = H0 at D1 sx0 ⊢
      refine ⟨_, rfl, d, 7, rfl, D1, by decide, by decide, fun p H2 hp s2 d2 => ⟨_, rfl, d, 7, rfl, d2, by decide, by decide, fun m H3 hm s3 d3 => ⟨_, _, rfl, ?_⟩⟩⟩
      have p7 : p < 7 := by omega
      have m7 : m < 7 := by omega
      have pm36 : p * m ≤ 6 * 6 := Nat.mul_le_mul (by omega) (by omega)
      have emul : (p : Int) * (m : Int) = ((p * m : Nat) : Int) := (Int.natCast_mul p m).symm
      refine ⟨_, rfl, _, rfl, _, rfl, _, _, rfl, rfl, .inl ⟨by omega, by omega⟩, _, _, rfl, rfl, d, (p : Int) * (m : Int) + 2, rfl, d3, by omega, by omega, fun l H4 hl s4 d4 => ?_⟩
      have hl2 : l < p * m + 2 := by omega
      have hl3 : l < m * p + 2 := by rw [Nat.mul_comm]; exact hl2
      have bok := bxOk p7 m7 hl2
      have bok2 := bxOk m7 p7 hl3
      have s04 : Sx d H0 H4 := s2.trans (s3.trans s4)
      refine ⟨_, rfl, _, rfl, _, rfl, l, p, m, rfl, by omega, by omega, by omega, fun as H5 s5 rb => fun t nt => gen_upd H5 t (.lst (as.map V.ref)) nt fun H6 s6 e6 => ?_⟩
      have rb6 := rb.same s6
      refine ⟨_, rfl, _, rfl, _, rfl, _, rfl, l, p, m, rfl, p7, m7, hl2, fun t2 as2 H7 s7 e7 rb7 => ne_rb (s7 _ _ e6) (rb6.same s7) e7 rb7 ⟨_, rfl, iteF ?_⟩⟩
      have e67 := s7 _ _ e6
      have rb67 := rb6.same s7
      refine ⟨_, rfl, t, _, rfl, .inl (SqL.of e67), _, rfl, _, rfl, _, rfl, (l : Int), p, m, rfl, by omega, by omega, by omega, by omega, fun H8 s8 => ⟨rfl, _, rfl, ?_⟩⟩
      have ln : ((as.map V.ref).length : Int) = G p m l := by
        rw [List.length_map, RB.len rb67]
        exact bok.num
      rw [ln, decide_eq_true rfl]
      have e8 := s8 _ _ e67
      have rb8 := rb67.same s8
      have s58 : Same H4 H8 := s5.trans (s6.trans (s7.trans s8))
      have d8 := d4.same s58
      have s08 : Sx d H0 H8 := s04.trans (Sx.of s58)
      clear e6 e7 e67 rb rb6 rb67 rb7 s5 s6 s7 s8 s58 s2 s3 s4 s04 d2 d3 d4 nt D1
      have la : as.length = (D p m l).length := RB.len rb8
      refine iteF ⟨_, rfl, t, rfl, ⟨_, SqL.of e8⟩, fun D1 hD => lc_list (xs := as.map V.ref) (fun j H' => ∃ ts : List Addr, Same H8 H' ∧ H' D1 = some (.lst (ts.map V.ref)) ∧ RB H' ts (((K27.D p m l).take j).map tn)) ⟨[], same_upd0 hD, upd_same, True.intro⟩ (fun j H' _ hP => ?_) (fun j x H' hx hP => ?_) (fun H9 hP => ?_)⟩
      · obtain ⟨_, s9, _⟩ := hP
        exact SqL.of (s9 _ _ e8)
      · obtain ⟨ts, s9, e9, rt⟩ := hP
        rw [List.getElem?_map] at hx
        obtain ⟨ad, had, rfl⟩ := Option.map_eq_some_iff.mp hx
        have hj : j < (K27.D p m l).length := by
          rw [← la]
          exact (List.getElem?_eq_some_iff.mp had).1
        obtain ⟨ad', b, f1, f2, f3⟩ := RB.get rb8 hj
        rw [had] at f1
        cases f1
        have lts : ts.length ≤ 63 := by
          have h1 := RB.len rt
          have h2 := bok.few
          rw [List.length_map, List.length_take] at h1
          omega
        refine ⟨rfl, _, rfl, ad, b, rfl, s9 _ _ f3, bok.bx b (List.mem_of_getElem? f2), fun p2 H10 s10 e10 => ⟨_, s10 _ _ e9, by rw [List.length_map]; exact small1000 (by omega), ts ++ [p2], ?_, ?_, ?_⟩⟩
        · exact Same.upd1 (s9.trans s10) hD
        · rw [upd_same, List.map_append]
          rfl
        · rw [List.take_add_one, f2, List.map_append]
          refine RB.keep (fun a' l' e => ?_) (RB.snoc (rt.same s10) e10)
          rw [upd_ne fun z => by rw [z] at e; rw [s10 _ _ e9] at e; cases e]
          exact e
      · obtain ⟨ts, s9, e9, rt⟩ := hP
        rw [List.length_map, la, List.take_length] at rt
        refine ⟨D1, ts.map V.ref, kH H9, rfl, SqL.of e9, fun x hx => ?_, fun h2 x hx => ?_, fun ys u pm2 srt nu => ?_⟩
        · obtain ⟨a', ha', rfl⟩ := List.mem_map.mp hx
          obtain ⟨b, hb, k⟩ := RB.mem rt a' ha'
          rw [kH_tp k]
          exact ⟨a', rfl, SqT.of k⟩
        · obtain ⟨a', ha', rfl⟩ := List.mem_map.mp hx
          obtain ⟨b, hb, k⟩ := RB.mem rt a' ha'
          rw [kH_tp k]
          have hb2 := bok.perm.mem_iff.mp hb
          have l2 : (K27.D m p l).length = ts.length := by rw [RB.len rt, bok.perm.length_eq]
          exact fun z => bok2.ne (by rw [l2]; rw [List.length_map] at h2; exact h2) b hb2 (bI_nil.mp z)
        · obtain ⟨zs, rfl, zsub⟩ := refs_of_perm pm2
          have pk : ((zs.map V.ref).map (kH H9)).Perm ((K27.D m p l).reverse.map bI) := by
            refine (pm2.map (kH H9)).trans ?_
            rw [RB.kH rt]
            refine (bok.perm.map bI).trans ?_
            exact ((List.reverse_perm _).symm).map bI
          have so2 : ((K27.D m p l).reverse.map bI).Pairwise fun x y => HT.lexLt y x = false := List.pairwise_map.mpr (bok2.asc.imp fun {x y} h => by rw [nlt_int]; exact h)
          have so1 : ((zs.map V.ref).map (kH H9)).Pairwise fun x y => HT.lexLt y x = false := List.pairwise_map.mpr srt
          have eq := pk.eq_of_pairwise (fun x y _ _ h k => lex_anti k h) so1 so2
          have s10 := same_upd0 (o := .lst (zs.map V.ref)) nu
          refine ⟨u, _, rfl, SqL.of upd_same, fun v nv => ?_⟩
          have s11 := same_upd0 (o := .lst (zs.map V.ref).reverse) nv
          have e11 : (upd (upd H9 u (.lst (zs.map V.ref))) v (.lst (zs.map V.ref).reverse)) v = some (.lst (zs.reverse.map V.ref)) := by
            rw [upd_same, List.map_reverse]
          have rbz : RB H9 zs.reverse (K27.D m p l) := by
            have := RB.of (H := H9) (zs.reverse.map fun a => (a, kH H9 (.ref a))) (K27.D m p l) ?_ ?_
            · rw [List.map_map] at this
              have e : zs.reverse.map ((fun x : Addr × List Int => x.1) ∘ fun a => (a, kH H9 (.ref a))) = zs.reverse := List.map_id' _
              rw [e] at this
              exact this
            · rw [List.map_map, List.map_reverse]
              have e : zs.map ((fun x : Addr × List Int => x.2) ∘ fun a => (a, kH H9 (.ref a))) = (zs.map V.ref).map (kH H9) := by rw [List.map_map]; rfl
              rw [e, eq, List.map_reverse, List.reverse_reverse]
            · intro q1 hq
              obtain ⟨a', ha', rfl⟩ := List.mem_map.mp hq
              obtain ⟨b, hb, k⟩ := RB.mem rt a' (zsub a' (List.mem_reverse.mp ha'))
              show H9 a' = some (tp (kH H9 (.ref a')))
              rw [kH_tp k]
              exact k
          have rb11 := (rbz.same s10).same s11
          have s811 := s9.trans (s10.trans s11)
          generalize upd (upd H9 u (.lst (zs.map V.ref))) v (.lst (zs.map V.ref).reverse) = H11 at e11 rb11 s811 ⊢
          refine ⟨_, rfl, _, rfl, _, rfl, l, m, p, rfl, by omega, by omega, by omega, fun as3 H12 s12 rb12 => fun t3 nt3 => gen_upd H12 t3 (.lst (as3.map V.ref)) nt3 fun H13 s13 e13 => ?_⟩
          refine ne_rb ((s12.trans s13) _ _ e11) (rb11.same (s12.trans s13)) e13 (rb12.same s13) ⟨_, rfl, iteF ?_⟩
          have s813 := s811.trans (s12.trans s13)
          have d13 := d8.same s813
          refine ⟨_, rfl, d, rfl, d13, fun H14 s14 d14 => ⟨_, rfl, iteF ⟨_, rfl, d, rfl, d14, fun H15 s15 d15 => ⟨_, rfl, iteF ?_⟩⟩⟩⟩
          have sxx : Sx d H0 H15 := s08.trans ((Sx.of s813).trans (s14.trans s15))
          rw [← hH0] at sxx
          exact ⟨_, _, _, _, _, _, rfl, script_Sx sxx nd h1⟩
    · obtain ⟨y1, y2, y3, y4, y5, y6, rfl, h1⟩ := hP
      clear h1
      refine ⟨4, 3, 3, rfl, by decide, by decide, by decide, fun as1 H2 s2 r1 => fun t1 n1 => gen_upd H2 t1 (.lst (as1.map V.ref)) n1 fun H3 s3 e1 => ?_⟩
      rw [D334] at r1
      have r1 := r1.same s3
      refine ⟨0, 0, 5, rfl, by decide, by decide, by decide, fun as2 H4 s4 r2 => fun t2 n2 => gen_upd H4 t2 (.lst (as2.map V.ref)) n2 fun H5 s5 e2 => ?_⟩
      rw [D050] at r2
      have r2 := r2.same s5
      have r1 := (r1.same s4).same s5
      have e1 := s5 _ _ (s4 _ _ e1)
      refine ⟨sz2, fun p1 m1 => gen_upd H5 p1 (tp [3, 1]) m1 fun H6 s6 f1 => ⟨p1, [3, 1], rfl, f1, bx31, fun q1 H7 s7 g1 => ?_⟩⟩
      refine ⟨sz0, fun p2 m2 => gen_upd H7 p2 (tp []) m2 fun H8 s8 f2 => ⟨p2, [], rfl, f2, bx_nil, fun q2 H9 s9 g2 => ?_⟩⟩
      refine ⟨sz2, fun p3 m3 => gen_upd H9 p3 (tp [3, 1]) m3 fun H10 s10 f3 => ⟨p3, [3, 1], 2, 3, rfl, f3, bx31, by decide, by decide, by decide, by decide, fun q3 H11 s11 g3 => ?_⟩⟩
      refine ⟨sz0, fun p4 m4 => gen_upd H11 p4 (tp []) m4 fun H12 s12 f4 => ⟨p4, [], 2, 3, rfl, f4, bx_nil, by decide, by decide, by decide, by decide, fun q4 H13 s13 g4 => ?_⟩⟩
      have sa : Same H5 H13 := s6.trans (s7.trans (s8.trans (s9.trans (s10.trans (s11.trans (s12.trans s13))))))
      have g1 := (s8.trans (s9.trans (s10.trans (s11.trans (s12.trans s13))))) _ _ g1
      have g2 := (s10.trans (s11.trans (s12.trans s13))) _ _ g2
      have g3 := (s12.trans s13) _ _ g3
      have r1 := r1.same sa
      have r2 := r2.same sa
      have e1 := sa _ _ e1
      have e2 := sa _ _ e2
      have dd1 : ∀ H', Same H13 H' → DpAll K H' [.ref t1, .ref t2, .ref q1, .ref q2, .ref q3, .ref q4] toldD := fun H' s' =>
        .cons (.lst (SqL.of (s' _ _ e1)) (dpAll_rb (r1.same s'))) (.cons (.lst (SqL.of (s' _ _ e2)) (dpAll_rb (r2.same s'))) (.cons (.tup (SqT.of (s' _ _ g1)) (dpAll_ints _)) (.cons (.tup (SqT.of (s' _ _ g2)) (dpAll_ints _)) (.cons (.tup (SqT.of (s' _ _ g3)) (dpAll_ints _)) (.cons (.tup (SqT.of (s' _ _ g4)) (dpAll_ints _)) .nil)))))
      clear r1 r2 e1 e2 g1 g2 g3 g4 s2 s3 s4 s5 s6 s7 s8 s9 s10 s11 s12 s13 sa f1 f2 f3 f4
      refine ⟨show 6 ≤ sizeLine by decide, fun u1 v1 => gen_upd H13 u1 (.lst [.ref t1, .ref t2, .ref q1, .ref q2, .ref q3, .ref q4]) v1 fun H14 s14 h1 => ?_⟩
      refine ⟨_, rfl, ⟨sz2, fun w1 x1 => gen_upd H14 w1 (tp [3, 1]) x1 fun H15 s15 f1 => ?_⟩⟩
      refine ⟨sz2, fun w2 x2 => gen_upd H15 w2 (tp [2, 2]) x2 fun H16 s16 f2 => ?_⟩
      refine ⟨sz3, fun w3 x3 => gen_upd H16 w3 (tp [2, 1, 1]) x3 fun H17 s17 f3 => ?_⟩
      refine ⟨sz3, fun l1 x4 => gen_upd H17 l1 (.lst [.ref w1, .ref w2, .ref w3]) x4 fun H18 s18 f4 => ?_⟩
      refine ⟨sz0, fun w4 x5 => gen_upd H18 w4 (tp []) x5 fun H19 s19 f5 => ?_⟩
      refine ⟨sz1, fun l2 x6 => gen_upd H19 l2 (.lst [.ref w4]) x6 fun H20 s20 f6 => ?_⟩
      refine ⟨sz3, fun w5 x7 => gen_upd H20 w5 (tp [2, 1, 1]) x7 fun H21 s21 f7 => ?_⟩
      refine ⟨sz0, fun w6 x8 => gen_upd H21 w6 (tp []) x8 fun H22 s22 f8 => ?_⟩
      refine ⟨sz1, fun w7 x9 => gen_upd H22 w7 (tp [2]) x9 fun H23 s23 f9 => ?_⟩
      refine ⟨sz2, fun w8 x10 => gen_upd H23 w8 (tp [3, 3]) x10 fun H24 s24 f10 => ?_⟩
      refine ⟨show 6 ≤ sizeLine by decide, fun l3 x11 => gen_upd H24 l3 (.lst [.ref l1, .ref l2, .ref w5, .ref w6, .ref w7, .ref w8]) x11 fun H25 s25 f11 => ?_⟩
      have k24 := s25
      have k23 := s24.trans k24
      have k22 := s23.trans k23
      have k21 := s22.trans k22
      have k20 := s21.trans k21
      have k19 := s20.trans k20
      have k18 := s19.trans k19
      have k17 := s18.trans k18
      have k16 := s17.trans k17
      have k15 := s16.trans k16
      have k14 := s15.trans k15
      have rbA : RB H25 [w1, w2, w3] [[3, 1], [2, 2], [2, 1, 1]] := ⟨k15 _ _ f1, k16 _ _ f2, k17 _ _ f3, True.intro⟩
      have rbB : RB H25 [w4] [[]] := ⟨k19 _ _ f5, True.intro⟩
      have dd2 : DpAll K H25 [.ref l1, .ref l2, .ref w5, .ref w6, .ref w7, .ref w8] toldD :=
        .cons (.lst (SqL.of (k18 _ _ f4)) (dpAll_rb rbA)) (.cons (.lst (SqL.of (k20 _ _ f6)) (dpAll_rb rbB)) (.cons (.tup (SqT.of (k21 _ _ f7)) (dpAll_ints [2, 1, 1])) (.cons (.tup (SqT.of (k22 _ _ f8)) (dpAll_ints [])) (.cons (.tup (SqT.of (k23 _ _ f9)) (dpAll_ints [2])) (.cons (.tup (SqT.of (k24 _ _ f10)) (dpAll_ints [3, 3])) .nil)))))
      refine ne_sameD (d := .list toldD) (.lst (SqL.of (k14 _ _ h1)) (dd1 _ (s14.trans k14))) (.lst (SqL.of f11) dd2) (by decide +kernel) (by decide +kernel) ⟨_, rfl, iteF ?_⟩
      clear dd1 dd2 rbA rbB k24 k23 k22 k21 k20 k19 k18 k17 k16 k15 k14 s14 s15 s16 s17 s18 s19 s20 s21 s22 s23 s24 s25 f1 f2 f3 f4 f5 f6 f7 f8 f9 f10 f11 h1
      refine ⟨24, 6, 4, rfl, by decide, by decide, by decide, fun as1 H2 s2 r1 => fun t1 n1 => gen_upd H2 t1 (.lst (as1.map V.ref)) n1 fun H3 s3 e1 => ?_⟩
      rw [D6424] at r1
      have r1 := r1.same s3
      refine ⟨sz1, fun w1 x1 => gen_upd H3 w1 (tp [4]) x1 fun H4 s4 f1 => ?_⟩
      refine ⟨w1, 6, _, rfl, rfl, SqT.of f1, by decide, by decide, by decide, by decide, fun w2 x2 => gen_upd H4 w2 (tp [4, 4, 4, 4, 4, 4]) x2 fun H5 s5 f2 => ?_⟩
      refine ⟨sz1, fun l1 x3 => gen_upd H5 l1 (.lst [.ref w2]) x3 fun H6 s6 f3 => ?_⟩
      have rb : RB H6 [w2] [[4, 4, 4, 4, 4, 4]] := ⟨s6 _ _ f2, True.intro⟩
      refine eq_rb (bs := [w2]) ((s4.trans (s5.trans s6)) _ _ e1) (r1.same (s4.trans (s5.trans s6))) f3 rb ⟨_, rfl, iteT ?_⟩
      clear e1 r1 f1 f2 f3 rb s2 s3 s4 s5 s6
      refine ⟨5, 2, 2, rfl, by decide, by decide, by decide, fun as2 H7 s7 r2 => fun t2 n2 => gen_upd H7 t2 (.lst (as2.map V.ref)) n2 fun H8 s8 e2 => ?_⟩
      rw [D225] at r2
      refine ⟨sz0, fun l2 x4 => gen_upd H8 l2 (.lst []) x4 fun H9 s9 f4 => ?_⟩
      refine eq_rb (as := as2) (bs := []) (s9 _ _ e2) (r2.same (s8.trans s9)) f4 True.intro ⟨_, rfl, iteT ?_⟩
      refine ⟨sz2, fun p1 m1 => gen_upd H9 p1 (tp [2, 1]) m1 fun H10 s10 f1 => ⟨p1, [2, 1], 2, 3, rfl, f1, bx21, by decide, by decide, by decide, by decide, fun q1 H11 s11 g1 => ?_⟩⟩
      refine ⟨sz2, fun p2 m2 => gen_upd H11 p2 (tp [2, 1]) m2 fun H12 s12 f2 => ?_⟩
      refine eq_ints (SqT.of (s12 _ _ g1)) (SqT.of f2) ?_
      rw [show decide (bI (lf [2, 1] 2 3) = [2, 1]) = true by decide +kernel]
      exact q H12
end
end K27

set_option Elab.async false
set_option linter.all false
set_option maxRecDepth 100000
set_option maxHeartbeats 0
namespace K27
open PySem PySem.Spec PyProof.Rows L2
theorem facts {P : Program} {w : World} {K : PySem.W.Frag} {h : Heap} {mg : Str → Option Value} {f : Addr} (X : K.In h) (G : h.Ns mainGlobals mg) (hfa : mg ("law" : Str) = some (.ref f)) (c : He.SaysX faL fnL [] [] exL w h K) :
    ∃ fd : FuncData, (∀ (s : Shared) (v : Value), BindsTo s fd ⟨[v], []⟩ [("_law_script", v)]) ∧ ∀ base : Heap, K.In base → base.Ns mainGlobals mg → FnOk P w K mg base CX0 8 f fd ["_law_script"] (spLaw K) := by
  obtain ⟨T⟩ := facts_of X G c.t.d c.more
  have e := hfa.symm.trans T.g_law
  cases e
  have b := FunD.bindsA (ps := ["_law_script"]) T.F_law fun _ _ _ _ _ _ us hl => match us, hl with | [_], _ => rfl
  exact ⟨T.fd_law, fun s v => b s [v] rfl, fun base _ _ => ok_law T⟩
end K27
open PySem PySem.W PySem.Calls PyProof.Rows
theorem PySem.Challenge.cw_sourceforms_k27_whole_boxes_turned_and_l_holds : PySem.Challenge.rw_sourceforms_k27_whole_boxes_turned_and_l.Holds := by
  w_on; o_law
  refine HandSHeadRun.head_any (r := OpenLaw.row PySem.Challenge.rw_sourceforms_k27_whole_boxes_turned_and_l) (q := view (OpenLaw.row PySem.Challenge.rw_sourceforms_k27_whole_boxes_turned_and_l).prog [28]) (H := K27.hk) (ob := K27.ob) (M := 6000) (loose := K27.loose) (d := HandSHeadRun.topDef (OpenLaw.row PySem.Challenge.rw_sourceforms_k27_whole_boxes_turned_and_l).prog 28) (kwd := []) K27.ob_eq
    (by kernel_rfl) (fun s => by kernel_rfl) K27.run (by kernel_rfl) (by kernel_rfl) (by kernel_rfl) (by rfl) (by first | assumption | decide +kernel) (by decide +kernel) ⟨rfl, rfl, rfl, rfl, rfl, by decide +kernel⟩ ?hw ?hc
  case hw => w_witness2
  case hc =>
    refine L2.walk_ofE (l := PySem.Challenge.rw_sourceforms_k27_whole_boxes_turned_and_l) (n := 63) (k := 8) (x := "_law_script") (CX := L2.CX0) rfl (by decide) (by kernel_rfl) ⟨rfl, by decide, by decide⟩ ?F (fun _ _ _ _ z => z)
    intro w mg fa h Y G hmg0
    obtain ⟨K, KX, c⟩ := Y
    have hmg : mg ("law" : PySem.Str) = some (.ref fa) := by
      have e : (HandSHeadRun.topDef (OpenLaw.row PySem.Challenge.rw_sourceforms_k27_whole_boxes_turned_and_l).prog 28).name = ("law" : PySem.Str) := by kernel_rfl
      rw [← e]
      exact hmg0
    obtain ⟨fd, hb, hF⟩ := K27.facts (P := (PySem.Challenge.rw_sourceforms_k27_whole_boxes_turned_and_l).prog) (w := w) KX G hmg c
    exact ⟨K, fd, K27.spLaw K, KX, hb, fun H a ns hl _ hS => ⟨a, ns, rfl, hS, hl, fun _ => rfl⟩, hF⟩
