import PyProof.Rows.All
import Wide.All
import OpenK.AllK
import Wide.FinOn
import KE.KTupSum
import HandS.ForMost
import HandS.Wide
import HandS.Style
import HandS.Gcd
import KE.KMathG
import Flt.RightSqrt
import HandS.SlotsOwn
import HandS.IsInst
import KE.KOpsOwn
import KE.KCallOwn
import KE.KOwnIter
import OpenK.KMeth
import OpenK.KOps
import PyProof.InstNe
import HandS.OwnIter
import HandS.IterNext
import HandS.Defaults
import HandS.HeadHook2
import HandS.HeadNt
import HandS.Iter
import KE.GoesMore
import HandS.Codes
import HandS.Words
import HandS.Slots
import HandS.ClsMeth
import PyProof.ListIndex
import PyProof.TupleOfGen
import HandS.OwnEq
import PyProof.NeKinds
import HandS.List
import HandS.AnyAll
import HandS.ExcOwn
import KE.KDictIter
import PyProof.GenCompT
import HandS.HeadHook4
import HandS.HeadWalk
import HandS.TupMul
import HandS.Zip
import HandS.Comp
import KE.GoesZip
import HandS.Deep
import HandS.TupSets
import HandS.Sort
import KE.DataFind
import PyProof.MinMaxWalk
import PyProof.WalkInts
import PyProof.TupleOps
import PyProof.WalksMore
import HandS.Conv
import HandS.Star
import HandS.TupAny
import HandS.Evl
import HandS.WordsExc
import HandS.Head0
import HandS.Head1
import HandS.Head2
import HandS.Head3
import HandS.HeadEnd
import HandS.HeadHook1
import HandS.HeadHook3
import HandS.FStr
import KE.KEqSeq
import HandS.Flt
import HandS.TupLe
import PySem.Challenge.RW_sourceforms_k65_whole_two_killers

set_option Elab.async false
set_option linter.all false
set_option maxRecDepth 100000
set_option maxHeartbeats 4000000
/-! rules of mine: a tuple turned round by a slice, the sum of a tuple -/
namespace MyR
open PySem PySem.Spec PyProof.Rows L2 HT
section
variable {prog : Program} {w : World} {A : Around} {E : Value → Shared → Prop} {s : Shared}
end
section
variable {X : Cx}
/-- // by any int other than 0 -/
def CDivZ (_ j : Int) : Prop := j ≠ 0 ∧ j.natAbs.log2 < 9000
theorem op_fdivZ : OpR X (binaryOp .FloorDiv) (rI CDivZ fun i j => .int (i.fdiv j)) := opI fun i j _ _ _ _ _ hc q =>
  floordiv_int hc.1 q (.inl (PyProof.noPylong_of_log2 hc.2))
end
end MyR

set_option Elab.async false
set_option linter.all false
set_option maxRecDepth 100000
set_option maxHeartbeats 2000000
/-! rules for instances with slots: own +, -, *, unary -, ==, !=, len, str -/
namespace OwnR
open PySem PySem.Spec PyProof.Rows L2 SlX
section
variable {X : Cx} {CX : CXT} {C g : Addr} {n : Nat} {sp : Sp} {E : XK}
/-- the right operand of a comparison: a value of a plain type, or an instance -/
inductive RT (X : Cx) (H : Hp) : V → Value → Prop where
  | plain {x : V} {T : String} (t : TyB X.K H x T) : RT X H x (.type T)
  | inst {b C' dy : Addr} {ws : List (Option V)} (h : Slt H b C' dy ws) : RT X H (.ref b) (.ref C')
theorem rt_looks {pins : List (Addr × Obj)} {σ : L2.St} {H : Hp} {s : Shared} {y : V} {u tb : Value} (I : Inv X pins σ H s) (ry : RelV y u) (t : RT X H y tb) : PySem.W.Looks (model X.prog X.w) s.heap (typeOf u) tb := by
  cases t with
  | plain t =>
    have e := t.is I ry
    cases u with
    | ref b =>
      obtain ⟨o, h1, h2⟩ := (show ∃ o, s.heap.get? b = some o ∧ o.cls = .type _ from e)
      rw [← h2]
      exact (PySem.W.Looks.ld (part := none) h1).andThen .now
    | _ => exact PySem.W.Looks.of_pure e
  | inst h =>
    cases (show u = Value.ref _ from ry)
    obtain ⟨sl, od, _, J, _⟩ := slt_inst I h
    exact J.type
/-- x == y, x an instance of the class at C with its own __eq__ at g -/
def rEqO (X : Cx) (C : Addr) (sp : Sp) (E : XK) : R2 := fun x y H Q => ∃ a dx vs tb, x = .ref a ∧ Slt H a C dx vs ∧ RT X H y tb ∧ PySem.W.notFirst X.K C tb = true ∧ sp [x, y] H Q E
theorem op_eqO (hs : PySem.W.findIn X.K (.ref C) "__eq__" = some (some (.ref g))) (hf : PySem.W.isFn X.K (.ref g) = true) (F : FnR X.prog X.w X.K X.mg X.base CX n g sp)
    (hr : Room n X.A) (hx : Passes CX X E) : OpR X (compareOp .Eq) (rEqO X C sp E) := by
  intro pins s σ H x y v u Q I rx ry h
  obtain ⟨a, dx, vs, tb, rfl, ha, ht, hn, q⟩ := h
  cases (show v = Value.ref a from rx)
  obtain ⟨sl, od, _, J, _⟩ := slt_inst I ha
  obtain ⟨m, hF⟩ := I.fr
  show wpAny _ _ (richCompare .Eq (.ref a) u) _ _ _
  refine PySem.W.cmp_K (op := .Eq) (tb := tb) hr.units0 hF I.ok.mod.kin J (rt_looks I ry ht) hn hs hf ?_
  refine wpAny_mono (wpAny_call (run_fnR (us := [.ref a, u]) (vs := [.ref a, y]) F hr hx I (.cons rfl (.cons ry .nil)) q)) (fun w s' z => ?_) fun _ _ x => x
  obtain ⟨z', H', I', rz, qz⟩ := z
  exact cmpback rz ⟨z', H', I', rz, qz⟩
end
end OwnR

set_option Elab.async false
set_option linter.all false
set_option maxRecDepth 100000
set_option maxHeartbeats 2000000
/-! list(x) of an instance with own __iter__ (an iterator over a tuple) and own __len__; iter of a tuple -/
namespace OwnR
open PySem PySem.Spec PyProof.Rows L2 SlX
/-- at it an iterator over the tuple at t, the next place is i -/
def ItT (t it : Addr) (i : Nat) : HO := .ext fun h => IsTupIter h it t i
theorem itT_ok {P : Program} {w : World} {H : Hp} {h : Heap} {t it : Addr} {i : Nat} (e : IsTupIter h it t i) : ObjOk P w H h it (ItT t it i) :=
  ⟨e, let ⟨o, ho, _⟩ := e; ⟨o, ho⟩, fun h1 h2 q k => let ⟨o, ho, r⟩ := q; ⟨o, k _ ho, r⟩⟩
section
variable {X : Cx} {CX : CXT} {pins : List (Addr × Obj)} {σ : L2.St} {H : Hp} {s : Shared} {C g gl t it q : Addr} {n i : Nat} {sp spl : Sp} {E : XK}
/-- iter(t), t a tuple -/
def rIterT (K : PySem.W.Frag) : List V → Hp → VK → Prop := fun xs H Q => ∃ (t : Addr) (zs : List V), xs = [.ref t] ∧ SqT K H t zs ∧ ∀ it, H it = none → Q (.ref it) (upd H it (ItT t it 0))
theorem call_iterT : CallR X (.builtin "iter") (rIterT X.K) := by
  intro pins s σ H xs us Q I r h
  obtain ⟨l, zs, rfl, hq, q⟩ := h
  obtain rfl := Vals.ref1 r
  obtain ⟨its, rv, pl, hz⟩ := I.tuple hq
  refine Calls.call_function_entry (by decide +kernel) (by decide +kernel) PySem.W.kdk_entry_iter (PySem.W.kdk_args_iter _) ?_
  unfold Builtin.«iter»
  refine wpAny_bind (m := someArgs "iter" 1 2 _) (wpAny_of_eq (a := [Value.ref l]) (by first | rfl | kernel_rfl!) ?_)
  show wpAny _ _ (pyIter (.ref l) >>= _) _ _ _
  refine wpAny_bind (iter_tuple pl ?_)
  refine wpAny_pure ⟨_, rfl, ?_⟩
  exact ⟨.ref s.heap.objs.size, _, I.laid (t' := s.toks) (fun b u e => Heap.get?_push_of_some _ e) (Nat.le_refl _) (itT_ok ⟨_, Heap.get?_push_size _ rfl, rfl, rfl⟩), rfl, q _ (I.hok.fresh (Nat.le_refl _))⟩
theorem sqT_upd {K : PySem.W.Frag} {ys : List V} {p : Addr} {o : HO} (h : SqT K H t ys) (hn : (∃ φ, H p = some (.ext φ)) ∨ ∃ xs, H p = some (.lst xs)) : SqT K (upd H p o) t ys := by
  rcases h with (h | ⟨u, h⟩) | h
  · refine .inl (.inl ?_)
    rw [upd_ne, h]
    intro e
    rw [e] at h
    rcases hn with ⟨φ, hn⟩ | ⟨xs, hn⟩ <;> rw [h] at hn <;> cases hn
  · refine .inl (.inr ⟨u, ?_⟩)
    rw [upd_ne, h]
    intro e
    rw [e] at h
    rcases hn with ⟨φ, hn⟩ | ⟨xs, hn⟩ <;> rw [h] at hn <;> cases hn
  · exact .inr h
/-- the callee runs below, and lets nothing out -/
theorem run_at0 {A : Around} {Q : VK} {us : List Value} {ws : List V} {R : Result → Shared → Prop} (F : FnR X.prog X.w X.K X.mg X.base CX n g sp) (hr : Room n A) (e0 : Env0 X.prog X.w X.K X.mg X.base A X.stack s H)
    (hx : ∀ (H : Hp) (s : Shared) (e : Value) (s' : Shared), CX X.stack H s E e s' → False) (I : Inv X pins σ H s) (r : Vals ws us) (h : sp ws H Q E) (hR : ∀ v s', EP X pins σ Q v s' → R (.ok (.ret v)) s') :
    codeAny (model X.prog X.w) A (.call (.ref g) ⟨us, []⟩) R s := by
  refine codeAny_mono (F A X.stack s H us ws Q E hr e0 r h) fun r s' hq => ?_
  cases r with
  | error e => exact (hx _ _ _ _ hq).elim
  | ok fl =>
    cases fl with
    | ret u => exact hR u s' (I.after hq)
    | next => exact False.elim hq
    | brk => exact False.elim hq
    | cont => exact False.elim hq
/-- what stands while the iterator's items are taken -/
structure Tk (K : PySem.W.Frag) (H0 H : Hp) (t it q : Addr) (ys : List V) (i : Nat) : Prop where
  at_ : H it = some (ItT t it i)
  tu : SqT K H t ys
  li : H q = some (.lst (ys.take i))
  st : ∀ b o, b ≠ it → b ≠ q → H0 b = some o → H b = some o
/-- an iterator of which nothing is known -/
def ItX (it : Addr) : HO := .ext fun h => ∃ o, h.get? it = some o
theorem itX_ok {P : Program} {w : World} {H : Hp} {h : Heap} {it : Addr} (e : ∃ o, h.get? it = some o) : ObjOk P w H h it (ItX it) := ⟨e, e, fun h1 h2 q k => let ⟨o, ho⟩ := q; ⟨o, k _ ho⟩⟩
theorem next_end2 {prog : Program} {w : World} {A : Around} {E : Value → Shared → Prop} {s : Shared} {it t : Addr} {i : Nat} {items : Array Value} {Q : Option Value → Shared → Prop} (hh : A.handled = none) (hit : IsTupIter s.heap it t i) (ht : IsTup s.heap t items) (hx : items[i]? = none)
    (hQ : ∀ h', Heap.ExtBut it s.heap h' → (∃ o, h'.get? it = some o) → Q none { s with heap := h' }) : wpAny (model prog w) A (pyNext (.ref it)) Q E s := by
  obtain ⟨o, ho, hc, hd⟩ := id hit
  obtain ⟨ol, hol, _, nl, hdl⟩ := ht
  unfold pyNext
  refine wpAny_bind (wpAny_attempt (wpAny_callSpecial?_slot (name := Str.ofString "__next__") hit.typeIs slot_tupleiter_next
    (wpAny_call_entry slot_tupleiter_next hit.typeIs entry_tupleiter_next ?_ (args_tupleiter_next _))))
  show wpAny _ _ (field (.ref it) 0 >>= _) _ _ s
  refine wpAny_bind (wpAny_field ho hd (x := .ref t) rfl ?_)
  show wpAny _ _ (if (Value.ref t == Value.none) = true then _ else _) _ _ s
  rw [if_neg (show ¬ ((Value.ref t == Value.none) = true) from Bool.false_ne_true)]
  show wpAny _ _ (field (.ref it) 1 >>= _) _ _ s
  refine wpAny_bind (wpAny_field ho hd (x := .int i 0) rfl ?_)
  show wpAny _ _ (seqItems? (.ref t) >>= _) _ _ s
  refine wpAny_bind (wpAny_seqItems hol hdl ?_)
  simp only [Int.toNat_natCast, hx]
  refine wpAny_bind (wpAny_rule (wpAny_bind (wpAny_setField ho hd (by simp) ?_)))
  show wpAny _ _ (newExc (.type "StopIteration") [] >>= _) _ _ _
  refine wpAny_bind ?_
  simp only [newExc, newTuple]
  refine wpAny_bind (wpAny_newObj_type ?_ (by size_fits))
  refine wpAny_bind (m := firstArgMember _ _) (wpAny_of_eq (a := Value.none) (by first | rfl | (simp only [firstArgMember]; rfl)) ?_)
  refine wpAny_newObj_type ?_ (by size_fits)
  simp only [raiseNew]
  refine wpAny_bind (wpAny_handled ?_)
  first | rw [show A.in1.handled = none from hh] | rw [hh]
  refine wpAny_bind (wpAny_pure (wpAny_throw ?_))
  refine wpAny_bind (wpAny_isInstance (T := "StopIteration") (b := true) ⟨_, Heap.get?_push_size _ rfl, rfl⟩ isSubtype_stop ?_)
  exact wpAny_pure (hQ _ (((Heap.SameBut.update ..).extBut.push _).push _) ⟨_, Heap.get?_push_of_some _ (Heap.get?_push_of_some _ (Heap.get?_update_self _ ho (Obj.isFreed_of_fields (Obj.data_mapFields hd _))))⟩)
theorem tk_loop {H0 : Hp} {ys : List V} {A1 : Around} {res : Value} {Rs : Result → Shared → Prop} (hh : A1.handled = none) (hne : it ≠ q)
    (hdone : ∀ H s, Inv X pins σ H s → H q = some (.lst ys) → (∀ b o, b ≠ it → b ≠ q → H0 b = some o → H b = some o) → Rs (.ok (.ret res)) s) :
    ∀ (k i : Nat) (H : Hp) (s : Shared), i + k = ys.length → Inv X pins σ H s → Tk X.K H0 H t it q ys i → codeAny (model X.prog X.w) A1 (.builtin "list.extend.loop" ⟨[.ref q, .ref it, res], []⟩) Rs s := by
  intro k
  induction k with
  | zero =>
    intro i H s hi I T
    refine codeAny_builtin PySem.F.entry_extend_loop ?_
    rw [Around.under_plainId PySem.F.plain_extend_loop _]
    show wpAny _ A1.in1 (pyNext (.ref it) >>= _) _ _ s
    obtain ⟨its, rv, pl, hz⟩ := I.tuple T.tu
    have hl := rv.length
    have hti : IsTupIter s.heap it t i := (I.hok it _ T.at_).1
    refine wpAny_bind (next_end2 (A := A1.in1) hh hti pl (by rw [List.getElem?_toArray]; exact List.getElem?_eq_none (by omega)) fun h' ext hex => ?_)
    have mu : Mut (H it) := by rw [T.at_]; exact True.intro
    have I2 : Inv X pins σ (upd H it (ItX it)) { s with heap := h' } := I.write (x := it) (e := it) (t' := s.toks) mu (.inl rfl) (fun b o nb z => ext b o nb z) hex (itX_ok hex)
    refine wpAny_pure (hdone _ _ I2 ?_ fun b o h1 h2 h3 => ?_)
    · rw [upd_ne (Ne.symm hne), T.li, List.take_of_length_le (by omega)]
    · rw [upd_ne h1]
      exact T.st b o h1 h2 h3
  | succ k ih =>
    intro i H s hi I T
    refine codeAny_builtin PySem.F.entry_extend_loop ?_
    rw [Around.under_plainId PySem.F.plain_extend_loop _]
    show wpAny _ A1.in1 (pyNext (.ref it) >>= _) _ _ s
    obtain ⟨its, rv, pl, hz⟩ := I.tuple T.tu
    have hl := rv.length
    have hti : IsTupIter s.heap it t i := (I.hok it _ T.at_).1
    have hlt : i < ys.length := by omega
    obtain ⟨w', hw, rw'⟩ := rv.get (List.getElem?_eq_getElem hlt)
    refine wpAny_bind (next_tuple_item (A := A1.in1) hti pl (by rw [List.getElem?_toArray]; exact hw) fun h' e' sb => ?_)
    have mu : Mut (H it) := by rw [T.at_]; exact True.intro
    have I2 : Inv X pins σ (upd H it (ItT t it (i + 1))) { s with heap := h' } := I.write (x := it) (e := it) (t' := s.toks) mu (.inl rfl) (fun b o nb z => (sb.2 b nb).trans z) (let ⟨o, ho, _⟩ := e'; ⟨o, ho⟩) (itT_ok e')
    have hq2 : upd H it (ItT t it (i + 1)) q = some (.lst (ys.take i)) := by rw [upd_ne (Ne.symm hne)]; exact T.li
    show wpAny _ A1.in1 (updateSeq q (·.push w') >>= _) _ _ _
    obtain ⟨z, its2, k2, r2, hl2, e2⟩ := I2.lstM hq2
    have hlen : (ys.take i).length = i := by rw [List.length_take]; omega
    refine wpAny_bind (wpAny_updateSeq e2 rfl (wpAny_pure ⟨plainId_quiet PySem.F.plain_extend_loop _, ?_⟩) (by rw [List.size_toArray]; omega) (by show (its2.toArray.push w').size ≤ sizeLine + 1; rw [Array.size_push, List.size_toArray]; omega))
    refine ih (i + 1) _ _ (by omega) (I2.lset (its' := its2 ++ [w']) (t' := s.toks) (ys := ys.take i ++ [ys[i]]) hq2 e2 (by simp) (r2.append (.cons rw' .nil)) (by rw [List.length_append, List.length_singleton]; omega)) ⟨?_, ?_, ?_, fun b o h1 h2 h3 => ?_⟩
    · rw [upd_ne hne, upd_same]
    · exact sqT_upd (sqT_upd T.tu (.inl ⟨_, T.at_⟩)) (.inr ⟨_, hq2⟩)
    · rw [upd_same, List.take_add_one, List.getElem?_eq_getElem hlt]
      rfl
    · rw [upd_ne h2, upd_ne h1]
      exact T.st b o h1 h2 h3
theorem hint_len {A1 : Around} {Q : Bool → Shared → Prop} {E' : Value → Shared → Prop} {a dx : Addr} {vs : List (Option V)} {El : XK} (hsl : PySem.W.findIn X.K (.ref C) "__len__" = some (some (.ref gl))) (hfl : PySem.W.isFn X.K (.ref gl) = true) (F : FnR X.prog X.w X.K X.mg X.base CX n gl spl) (hr : Room n A1.in1)
    (hfr : A1.frames = X.A.frames) (hx : ∀ (H : Hp) (s : Shared) (e : Value) (s' : Shared), CX X.stack H s El e s' → False) (I : Inv X pins σ H s) (ha : Slt H a C dx vs)
    {Q0 : VK} (h : spl [.ref a] H Q0 El) (hQ0 : ∀ z H3, Q0 z H3 → ∃ k : Int, z = .int k ∧ (0 ≤ k ∧ k ≤ sizeLine) ∧ ∀ s' b, Inv X pins σ H3 s' → Q b s') :
    wpAny (model X.prog X.w) A1 (Builtin.List.listLengthHint (.ref a)) Q E' s := by
  obtain ⟨sl, od, _, J, _⟩ := slt_inst I ha
  obtain ⟨m, hF⟩ := I.fr
  unfold Builtin.List.listLengthHint
  refine wpAny_bind (wpAny_bind (J.type.here ((PySem.W.looks_findIn I.kIn hsl).here ?_)))
  refine PySem.W.KFB.if_not rfl ?_
  refine PySem.W.KFB.if_so rfl ?_
  refine wpAny_bind (wpAny_rule ?_)
  have e0 : Env0 X.prog X.w X.K X.mg X.base A1.in1 X.stack s H := by
    have e := I.env0
    exact ⟨by rw [show A1.in1.frames = X.A.frames from hfr]; exact e.frames, e.mod, e.bs, e.bsz, e.funs, e.frf, e.hok, e.bare⟩
  refine wpAny_bind (wpAny_attempt (PySem.W.len_K hF I.ok.mod.kin J hsl hfl (wpAny_call (run_at0 (us := [.ref a]) (ws := [.ref a]) F hr e0 hx I (.cons rfl .nil) h fun v s' z => ?_))))
  obtain ⟨z', H', I', rz, q0⟩ := z
  obtain ⟨k, ek, hk, qk⟩ := hQ0 _ _ q0
  subst ek
  obtain ⟨t, e⟩ := (show ∃ t, v = Value.int k t from rz)
  cases e
  have hsz : (sizeLine : Int) < 2 ^ 63 := by rw [sizeLine_eq]; decide
  refine ⟨⟨hk.1, by omega⟩, ?_⟩
  refine wpAny_bind (wpAny_of_eq (a := some k) rfl ?_)
  show wpAny _ _ (if Builtin.List.listTooLong k.toNat = true then _ else _) _ _ _
  rw [if_neg (by rw [notLongL (by omega)]; decide)]
  exact wpAny_pure (qk _ _ (I'.tok _))
theorem slt_upd {a dx q : Addr} {vs : List (Option V)} {o : HO} (h : Slt H a C dx vs) (n : H q = none) : Slt (upd H q o) a C dx vs := by
  rcases h with ⟨h1, h2⟩ | ⟨h1, h2⟩
  · exact .inl ⟨by rw [upd_ne (ne_of_none h1 n)]; exact h1, h2⟩
  · exact .inr ⟨by rw [upd_ne (ne_of_none h1 n)]; exact h1, by rw [upd_ne (ne_of_none h2 n)]; exact h2⟩
end
end OwnR

set_option Elab.async false
set_option linter.all false
set_option maxRecDepth 100000
set_option maxHeartbeats 2000000
/-! a Hook that tells of defs found anywhere (a global, a class's method, a property's getter), and of classes with slots -/
namespace HookG
open PySem PySem.Spec PyProof.Rows L2 He
/-- the property f of the class at C -/
def prA (K : PySem.W.Frag) (C : Addr) (f : Str) : Addr := match PySem.W.recIn K (ma K C f) "property" with
  | some (.ref g :: _) => g
  | _ => 0
/-- where a def stands: a global; a method; a property's getter; a classmethod -/
inductive At where
  | glo (x : Str)
  | met (C m : Str)
  | prp (C f : Str)
  | cms (C m : Str)
def At.adr (K : PySem.W.Frag) : At → Addr
  | .glo x => ga K x
  | .met C m => ma K (ga K C) m
  | .prp C f => prA K (ga K C) f
  | .cms C m => He5.wf K (ga K C) "classmethod" m
structure GD where
  at_ : At
  name : Str
  qual : Str
  params : Arguments
  body : List Stmt
  scope : Scope
def fnA (K : PySem.W.Frag) (a : Addr) : FnW := match K.lookup a with
  | some ⟨_, _, .func fd, _⟩ => some (fd.name, fd.qualname, fd.params, fd.body, fd.scope, fd.globals, fd.closure, fd.builtins)
  | _ => none
def GD.val (d : GD) : FnW := some (d.name, d.qual, d.params, .stmts d.body, d.scope, mainGlobals, [], builtinsNs)
def GD.ok (K : PySem.W.Frag) (d : GD) : Bool := PySem.W.keepIn K (.ref (d.at_.adr K)) && (match K.lookup (d.at_.adr K) with
  | some ⟨_, _, .func fd, _⟩ => PySem.W.codeIn K fd.code d.qual && (dflB K fd.defaults [] && kwdB K fd.kwdefaults [])
  | _ => false)
theorem GD.funD {K : PySem.W.Frag} {d : GD} (e : fnA K (d.at_.adr K) = d.val) (c : d.ok K = true) : ∃ fd, FunD K d.name d.qual d.params d.body d.scope [] [] (d.at_.adr K) fd := by
  obtain ⟨kp, c2⟩ := ba c
  unfold fnA at e
  cases q : K.lookup (d.at_.adr K) with
  | none => rw [q] at c2; cases c2
  | some o =>
    obtain ⟨oc, od, dt, osl⟩ := o
    rw [q] at c2 e
    cases dt with
    | func fd =>
      obtain ⟨n1, n2, n3, n4, n5, n6, n7, n8, n9, n10, n11, n12, n13, n14, n15⟩ := fd
      have e2 : (some (n1, n2, n3, n4, n5, n6, n7, n15) : FnW) = some (d.name, d.qual, d.params, .stmts d.body, d.scope, mainGlobals, [], builtinsNs) := e
      simp only [Option.some.injEq, Prod.mk.injEq] at e2
      obtain ⟨h1, h2, h3, h4, h5, h6, h7, h8⟩ := e2
      subst h1 h2 h3 h4 h5 h6 h7 h8
      have c3 : (PySem.W.codeIn K n13 d.qual && (dflB K n8 [] && kwdB K n9 [])) = true := c2
      obtain ⟨k1, k2⟩ := ba c3
      obtain ⟨k3, k4⟩ := ba k2
      exact ⟨_, ⟨oc, od, n8, n9, n10, n11, n12, n13, n14, osl, rfl, q, k1, dflB_ok k3, kwdB_ok k4⟩, kp⟩
    | _ => cases c2
/-! ### facts of classes with slots -/
def dO {α : Type} [DecidableEq α] (a b : Option α) : Bool := decide (a = b)
theorem dO_ok {α : Type} [DecidableEq α] {a b : Option α} (h : dO a b = true) : a = b := of_decide_eq_true h
/-- the class at the module's name x: plain, with slots -/
def sclB (K : PySem.W.Frag) (x : Str) : Bool := PySem.W.plainGet K (ga K x) Str.empty && (PySem.W.isClsIn K (ga K x) && (PySem.W.plainOver K (ga K x) && eqO (PySem.W.findIn K (.ref (ga K x)) "__setattr__") (some (some (.builtin "object.__setattr__")))))
theorem sclB_ok {K : PySem.W.Frag} {x : Str} (h : sclB K x = true) : SlX.SCls K (ga K x) := by
  obtain ⟨c1, c⟩ := ba h
  obtain ⟨c2, c⟩ := ba c
  obtain ⟨c3, c4⟩ := ba c
  exact ⟨c1, c2, c3, eqO_ok c4⟩
def slotB (K : PySem.W.Frag) (x f : Str) (i : Nat) : Bool := eqO (PySem.W.findIn K (.ref (ga K x)) f) (some (some (.ref (ma K (ga K x) f)))) && (eqO (PySem.W.specialIn K (.ref (ma K (ga K x) f)) "__get__") (some (some (.builtin "member_descriptor.__get__"))) && (dO (PySem.W.takesIn K (.ref (ma K (ga K x) f))) (some true) && (dO (PySem.W.typeIn K (.ref (ma K (ga K x) f))) (some (.type "member_descriptor")) && dO (PySem.W.slotIn K (ma K (ga K x) f) (ga K x)) (some i))))
theorem slotB_ok {K : PySem.W.Frag} {x f : Str} {i : Nat} (h : slotB K x f i = true) (hi : i < 1000) : SlX.Slot1 K (ga K x) f (ma K (ga K x) f) i := by
  obtain ⟨c1, c⟩ := ba h
  obtain ⟨c2, c⟩ := ba c
  obtain ⟨c3, c⟩ := ba c
  obtain ⟨c4, c5⟩ := ba c
  exact ⟨eqO_ok c1, eqO_ok c2, dO_ok c3, dO_ok c4, dO_ok c5, hi⟩
def sisB (K : PySem.W.Frag) (x : Str) : Bool := eqO (PySem.W.findIn K (.ref (ga K x)) "__class__") (some (some (.builtin "object.__class__"))) && (eqO (PySem.W.specialIn K (.builtin "object.__class__") "__get__") (some (some (.builtin "getset_descriptor.__get__"))) && (dO (PySem.W.takesIn K (.builtin "object.__class__")) (some true) && dO (PySem.W.mroIn K (ga K x) (.type "object")) (some true)))
theorem sisB_ok {K : PySem.W.Frag} {x : Str} (h : sisB K x = true) : SlX.SIsi K (ga K x) := by
  obtain ⟨c1, c⟩ := ba h
  obtain ⟨c2, c⟩ := ba c
  obtain ⟨c3, c4⟩ := ba c
  exact ⟨eqO_ok c1, eqO_ok c2, dO_ok c3, dO_ok c4⟩
/-- a method: found in the class, a function -/
structure Mt (K : PySem.W.Frag) (C : Addr) (m : Str) (g : Addr) : Prop where
  at_ : PySem.W.findIn K (.ref C) m = some (some (.ref g))
  fn : PySem.W.isFn K (.ref g) = true
def mtB (K : PySem.W.Frag) (x m : Str) : Bool := eqO (PySem.W.findIn K (.ref (ga K x)) m) (some (some (.ref (ma K (ga K x) m)))) && PySem.W.isFn K (.ref (ma K (ga K x) m))
theorem mtB_ok {K : PySem.W.Frag} {x m : Str} (h : mtB K x m = true) : Mt K (ga K x) m (ma K (ga K x) m) := by
  obtain ⟨c1, c2⟩ := ba h
  exact ⟨eqO_ok c1, c2⟩
/-- a property, its getter at g -/
structure Pr (K : PySem.W.Frag) (C : Addr) (f : Str) (p g : Addr) : Prop where
  at_ : PySem.W.findIn K (.ref C) f = some (some (.ref p))
  get : PySem.W.specialIn K (.ref p) "__get__" = some (some (.builtin "property.__get__"))
  tk : PySem.W.takesIn K (.ref p) = some true
  rc : ∃ rest, PySem.W.recIn K p "property" = some (.ref g :: rest)
def recB (K : PySem.W.Frag) (p g : Addr) : Bool := match PySem.W.recIn K p "property" with
  | some (.ref a :: _) => decide (a = g)
  | _ => false
def prB (K : PySem.W.Frag) (x f : Str) : Bool := eqO (PySem.W.findIn K (.ref (ga K x)) f) (some (some (.ref (ma K (ga K x) f)))) && (eqO (PySem.W.specialIn K (.ref (ma K (ga K x) f)) "__get__") (some (some (.builtin "property.__get__"))) && (dO (PySem.W.takesIn K (.ref (ma K (ga K x) f))) (some true) && recB K (ma K (ga K x) f) (prA K (ga K x) f)))
theorem prB_ok {K : PySem.W.Frag} {x f : Str} (h : prB K x f = true) : Pr K (ga K x) f (ma K (ga K x) f) (prA K (ga K x) f) := by
  obtain ⟨c1, c⟩ := ba h
  obtain ⟨c2, c⟩ := ba c
  obtain ⟨c3, c4⟩ := ba c
  refine ⟨eqO_ok c1, eqO_ok c2, dO_ok c3, ?_⟩
  unfold recB at c4
  cases q : PySem.W.recIn K (ma K (ga K x) f) "property" with
  | none => rw [q] at c4; cases c4
  | some l =>
    rw [q] at c4
    cases l with
    | nil => cases c4
    | cons a r =>
      cases a with
      | ref b =>
        have e : b = prA K (ga K x) f := of_decide_eq_true c4
        rw [← e]
        exact ⟨r, rfl⟩
      | _ => cases c4
/-! ### the Hook -/
abbrev AlG : Type := Bool × List FnW
def obsG (fa : List Fa) (fn : List GD) (ex : PySem.W.Frag → Bool) (K : PySem.W.Frag) : AlG := ((fa.all fun f => f.ok K) && ((fn.all fun d => d.ok K) && ex K), fn.map fun d => fnA K (d.at_.adr K))
def valG (fn : List GD) : AlG := (true, fn.map GD.val)
def SaysG (fa : List Fa) (fn : List GD) (ex : PySem.W.Frag → Bool) (K : PySem.W.Frag) : Prop := obsG fa fn ex K = valG fn
section
variable {fa : List Fa} {fn : List GD} {ex : PySem.W.Frag → Bool} {K : PySem.W.Frag}
theorem SaysG.all (c : SaysG fa fn ex K) : ((fa.all fun f => f.ok K) && ((fn.all fun d => d.ok K) && ex K)) = true := congrArg (fun z : AlG => z.1) c
theorem SaysG.fact (c : SaysG fa fn ex K) (i : Nat) {f : Fa} (h : fa[i]? = some f := by rfl) : f.ok K = true := List.all_eq_true.mp (ba c.all).1 f (List.mem_of_getElem? h)
theorem SaysG.more (c : SaysG fa fn ex K) : ex K = true := (ba (ba c.all).2).2
theorem SaysG.def_ (c : SaysG fa fn ex K) (i : Nat) {d : GD} (h : fn[i]? = some d := by rfl) : ∃ fd, FunD K d.name d.qual d.params d.body d.scope [] [] (d.at_.adr K) fd := by
  have c2 := (ba (ba c.all).2).1
  have e : fn.map (fun d => fnA K (d.at_.adr K)) = fn.map GD.val := congrArg (fun z : AlG => z.2) c
  have e2 : (fn.map fun d => fnA K (d.at_.adr K))[i]? = (fn.map GD.val)[i]? := by rw [e]
  rw [List.getElem?_map, List.getElem?_map, h] at e2
  exact GD.funD (Option.some.inj e2) (List.all_eq_true.mp c2 d (List.mem_of_getElem? h))
end
end HookG

set_option Elab.async false
set_option linter.all false
set_option maxRecDepth 100000
set_option maxHeartbeats 2000000
/-! HookG's Hook over a lesser fragment: what the globals name, what is named by that, and so on; a function names its code and its defaults only -/
namespace HookG
open PySem PySem.Spec PyProof.Rows L2 He
def refsW (o : Obj) : List Addr := match o.data with
  | .func fd => refV fd.code ++ refV fd.defaults ++ refV fd.kwdefaults
  | _ => refsD o
def nxtW (g : Addr → Option Obj) (as : List Addr) : List Addr := as.flatMap fun a => match g a with
  | some o => refsW o
  | none => []
def levW (g : Addr → Option Obj) : Nat → List Addr → List Addr
  | 0, as => as
  | n + 1, as => as ++ levW g n (nxtW g as)
def asW (g : Addr → Option Obj) (n : Nat) : List Addr := levW g n [mainGlobals] ++ [cStatics]
end HookG

set_option Elab.async false
set_option linter.all false
set_option maxRecDepth 100000
set_option maxHeartbeats 2000000
/-! enumerate(t), t a tuple -/
namespace EnumT
open PySem PySem.Spec PyProof.Rows L2
open AutoSeq1 (wpAny_loadPart')
theorem meets_newT (l : Addr) (items : Array Value) (n : Nat) (dct : Option Addr) (sl : Array (Option Value)) :
    Meets (Builtin.«enumerate.__new__» ⟨[.type "enumerate", .ref l], []⟩) (fun _ R s => s.heap.get? l = some { cls := .type "tuple", dict := dct, data := .seq items n, slots := sl } ∧
      R (.ok (.ret (.ref (s.heap.push { cls := .type "tuple_iterator", data := .fields #[.ref l, .int 0 0] }).objs.size)))
        { s with heap := (s.heap.push { cls := .type "tuple_iterator", data := .fields #[.ref l, .int 0 0] }).push { cls := .type "enumerate", data := .fields #[.none, .bool false, .ref s.heap.objs.size, rawInt 0, .none, .none] } }) :=
  .of_wp fun prog w A R s h => by
    obtain ⟨hp, g, d, tk, os⟩ := s; obtain ⟨hl, h⟩ := h
    have hsub := sub_enumerate
    have hL : Heap.IsTuple (Shared.heap ⟨hp, g, d, tk, os⟩) l items := ⟨_, hl, rfl, n, rfl⟩
    wp_walk using wpAny_loadPart' hl
    refine wpAny_stack_any fun st => wpAny_pure ?_
    split
    · rename_i c _ _ _ _ _
      cases (c == Value.type "enumerate")
      · wp_walk using wpAny_loadPart' hl, wpAny_pyIter_tuple hL
        exact ⟨_, rfl, h⟩
      · wp_walk using wpAny_loadPart' hl, wpAny_pyIter_tuple hL
        exact ⟨_, rfl, h⟩
    · wp_walk using wpAny_loadPart' hl, wpAny_pyIter_tuple hL
      exact ⟨_, rfl, h⟩
section
variable {prog : Program} {w : World} {A : Around} {E : Value → Shared → Prop} {s : Shared}
theorem call_enumT {l : Addr} {items : Array Value} {Q : Value → Shared → Prop} (hL : s.heap.IsTuple l items)
    (h : ∀ h', IsEnum h' (s.heap.objs.size + 1) s.heap.objs.size 0 .none → h'.IsTupleIter s.heap.objs.size l 0 → h'.objs.size = s.heap.objs.size + 2 →
      (∀ b o, s.heap.get? b = some o → h'.get? b = some o) → Q (.ref (s.heap.objs.size + 1)) { s with heap := h' }) :
    wpAny (model prog w) A (call (.type "enumerate") [.ref l]) Q E s := by
  obtain ⟨⟨c, dct, dt, sl⟩, hl, hc, n, hd⟩ := hL
  replace hc : c = .type "tuple" := hc
  replace hd : dt = .seq items n := hd
  subst hc hd
  refine callType_new F.called_enumerate (by decide) (F.typeCall_enumerate_1 _) (F.newCall_enumerate_1 _) (fun obj => F.args_object_init_2 obj _) F.entry_enumerate_new
    (meets_newT l items n dct sl) ⟨hl, ?_⟩
  have hz : (s.heap.push { cls := .type "tuple_iterator", data := .fields #[.ref l, .int 0 0] }).objs.size = s.heap.objs.size + 1 := Heap.size_push ..
  show _ ∧ _
  rw [hz]
  have he : IsEnum ((s.heap.push { cls := .type "tuple_iterator", data := .fields #[.ref l, .int 0 0] }).push
      { cls := .type "enumerate", data := .fields #[.none, .bool false, .ref s.heap.objs.size, rawInt 0, .none, .none] }) (s.heap.objs.size + 1) s.heap.objs.size 0 .none := by
    have := Heap.get?_push_size (s.heap.push { cls := .type "tuple_iterator", data := .fields #[.ref l, .int 0 0] })
      (o := { cls := .type "enumerate", data := .fields #[.none, .bool false, .ref s.heap.objs.size, rawInt 0, .none, .none] }) rfl
    rw [hz] at this; exact this
  refine ⟨⟨_, he, rfl⟩, h _ he ⟨_, Heap.get?_push_of_some _ (Heap.get?_push_size _ rfl), rfl, rfl⟩ (by rw [Heap.size_push, hz]) fun b o x => Heap.get?_push_of_some _ (Heap.get?_push_of_some _ x)⟩
end
/-- the tuple at a, each item in a new pair -/
def IteT (K : PySem.W.Frag) (a : Addr) : It :=
  ⟨fun i H => ∃ (xs : List V) (x : V), SqT K H a xs ∧ xs[i]? = some x, fun i H v H' => ∃ T x, v = .ref T ∧ H T = none ∧ H' = upd H T (.tup [.int (i : Nat), x]) ∧ ∀ xs, SqT K H a xs → xs[i]? = some x, fun i H => ∃ xs : List V, SqT K H a xs ∧ xs.length = i⟩
theorem turn_enumT {P : Program} {w : World} {K : PySem.W.Frag} {elts : List Expr} {kk : Nat} {tpos : Pos} (a e it : Addr) (hait : a ≠ it) (hae : a ≠ e) :
    Turn P w K (.Tuple elts kk tpos) (IteT K a) [e, it] e (fun i h => (∃ old, IsEnum h e it ((i : Nat) : Int) old) ∧ h.IsTupleIter it a i ∧ e ≠ it) where
  mem := by simp
  obj := fun i h st b hb => by
    obtain ⟨⟨old, he⟩, ⟨o, ho, hc, hd⟩, _⟩ := st
    have e' : b = e ∨ b = it := by simpa using hb
    rcases e' with z | z
    · rw [z]; exact ⟨_, he, fun v q => nomatch q⟩
    · rw [z]; exact ⟨o, ho, fun v q => by rw [hd] at q; cases q⟩
  keep := fun i h h' st k => let ⟨⟨old, he⟩, hi, hne⟩ := st; ⟨⟨old, k e (by simp) _ he⟩, hi.at fun o q => k it (by simp) o q, hne⟩
  item := by
    intro X hP hw hK hc i pins s σ H E I hf st hg
    subst hP hw hK
    obtain ⟨⟨old, he⟩, hit, hne⟩ := st
    obtain ⟨xs, x, hq, hx⟩ := hg
    obtain ⟨its, rv, p, hz⟩ := I.tuple hq
    obtain ⟨u, hu, ru⟩ := rv.get hx
    have hel : e < s.heap.objs.size := Heap.lt_size he
    have hil : it < s.heap.objs.size := by obtain ⟨_, q, _⟩ := hit; exact Heap.lt_size q
    have pT : s.heap.IsTuple a its.toArray := p
    have hlt : i < its.toArray.size := by
      have := (List.getElem?_eq_some_iff.mp hu).1
      simpa using this
    refine wpAny_pyNext_enum_itemD (Draws.tuple (A := X.A.in1) (I.ok.hd hc) it a hait its.toArray) he ⟨hit, pT⟩ hlt hne (by simp [Ne.symm hae, hne]) fun x' h' tk hx' ho hit' hT hsz hk => ?_
    have hux : x' = u := by
      have h1 : its[i]? = some x' := by simpa using hx'
      rw [hu] at h1
      exact (Option.some.inj h1).symm
    subst hux
    refine ⟨_, rfl, wpAny_letOwnedTupleGo_enum (s := { s with heap := h', toks := tk + 1 }) ho fun h'' he' sb => ?_⟩
    have hT2 : h''.get? s.heap.objs.size = some { cls := .type "tuple", data := .seq #[.int i tk, x'] } := (sb.2 _ (Nat.ne_of_gt hel)).trans hT
    have new : ObjOk X.prog X.w (upd H s.heap.objs.size (.tup [.int (i : Nat), x])) h'' s.heap.objs.size (.tup [.int (i : Nat), x]) :=
      ⟨by show 2 ≤ sizeLine; decide, [.int i tk, x'], .cons ⟨_, rfl⟩ (.cons ru .nil), ⟨_, hT2, rfl, _, rfl⟩⟩
    have I1 : Inv X pins σ (upd H s.heap.objs.size (.tup [.int (i : Nat), x])) { s with heap := h'', toks := tk + 1 } :=
      I.turnedNew (ch := [e, it]) (fun b ob hb q => (sb.2 b (fun z => hb (by simp [z]))).trans (hk b ob (fun z => hb (by simp [z])) (fun z => hb (by simp [z])) q)) hf (Nat.le_refl _) new
    refine ⟨.ref s.heap.objs.size, _, I1, rfl, ⟨_, x, rfl, I.hok.fresh (Nat.le_refl _), rfl, fun ys hy => ?_⟩, ⟨⟨x', ?_⟩, hit'.1.at fun o q => (sb.2 it (Ne.symm hne)).trans q, hne⟩, fun b hb => ?_⟩
    · rw [show ys = xs from I.tuple_inj hy hq]
      exact hx
    · have e1 : ((i + 1 : Nat) : Int) = (i : Int) + 1 := by omega
      rw [e1]; exact he'
    · have hb' : b < s.heap.objs.size := by
        have e' : b = e ∨ b = it := by simpa using hb
        rcases e' with z | z
        · rw [z]; exact hel
        · rw [z]; exact hil
      rw [upd_ne (Nat.ne_of_lt hb')]
      exact (hf b hb).1
  done := by
    intro X hP hw hK hc i pins s σ H E I hf st hg
    subst hP hw hK
    obtain ⟨⟨old, he⟩, hit, hne⟩ := st
    obtain ⟨xs, hq, hx⟩ := hg
    obtain ⟨its, rv, p, hz⟩ := I.tuple hq
    obtain ⟨f0, f1, f2, f3, f4, f5⟩ := hf it (by simp)
    have hl := rv.length
    have hz2 : i = its.toArray.size := by rw [List.size_toArray]; omega
    subst hz2
    exact wpAny_pyNext_enum_endD (Draws.tuple (A := X.A.in1) (I.ok.hd hc) it a hait its.toArray) he ⟨hit, show s.heap.IsTuple a its.toArray from p⟩ fun h' eb => ⟨rfl, I.turned (t' := s.toks) (fun b o hb q => eb b o hb q) f0 f1 f3 f4 f5⟩
  self := fun A i s Q E st h => let ⟨⟨_, he⟩, _⟩ := st; wpAny_pyIter_enum he h
def iEnumT (K : PySem.W.Frag) (ta : TA) : TI := fun σ H R => ta σ H fun vs H1 => ∃ a xs, vs = [.ref a] ∧ SqT K H1 a xs ∧ R (IteT K a) H1
theorem pi_enumT {X : Cx} {e : Expr} {ta : TA} {p pos tpos : Pos} {elts : List Expr} {kk : Nat} (hg : Gl X "enumerate") (hm : X.mg "enumerate" = none) (ha : PA X [e] ta) (hs : starEach [e] X.env = [(false, eval e X.env)] := by rfl) :
    PI X (.Tuple elts kk tpos) (.Call (.Name "enumerate" p) [e] [] pos) (iEnumT X.K ta) := by
  refine ⟨fun pins s σ H R I h => ?_⟩
  refine Call_ (ld_blt I hg hm boot_enumerate (PyProof.Rows.callWith_type1 (thn (ha.run pos pins s σ H _ I h) fun us s1 ⟨vs, H1, I1, r1, q1⟩ => ?_) hs rfl))
  obtain ⟨a, xs, ex, hq, q⟩ := q1
  subst ex
  cases r1 with
  | cons r rr =>
    cases rr
    cases r
    obtain ⟨its, rv, p', hz⟩ := I1.tuple hq
    have hlt : a < s1.heap.objs.size := by obtain ⟨_, ho, _⟩ := p'; exact Heap.lt_size ho
    refine call_enumT (show s1.heap.IsTuple a its.toArray from p') fun h' he hit hsz hk => wpAny_pyIter_enum he ?_
    have I2 : Inv X pins σ H1 { s1 with heap := h' } := I1.kept (t' := s1.toks) hk
    refine ⟨s1.heap.objs.size + 1, [s1.heap.objs.size + 1, s1.heap.objs.size], _, _, H1, rfl, I2, turn_enumT a (s1.heap.objs.size + 1) s1.heap.objs.size (Nat.ne_of_lt hlt) (Nat.ne_of_lt (Nat.lt_succ_of_lt hlt)), ⟨⟨.none, he⟩, hit, Nat.succ_ne_self _⟩, fun b hb => ?_, q⟩
    have e' : b = s1.heap.objs.size + 1 ∨ b = s1.heap.objs.size := by simpa using hb
    have hle : s1.heap.objs.size ≤ b := by
      rcases e' with z | z
      · rw [z]; exact Nat.le_add_right _ _
      · rw [z]; exact Nat.le_refl _
    exact I1.fpOk hle (I1.hok.fresh hle)
/-- a loop over enumerate of a tuple -/
theorem for_enumT {K : PySem.W.Frag} {a : Addr} {xs : List V} {g : TG} {tb : TS} {D : Ends} {σ : L2.St} {H : Hp} (Pv : Nat → L2.St → Hp → Prop) (h0 : Pv 0 σ H) (hq : ∀ i σ H, Pv i σ H → SqT K H a xs)
    (hs : ∀ (i : Nat) (x : V) (T : Addr) (σ : L2.St) (H : Hp), xs[i]? = some x → Pv i σ H → H T = none → g (.ref T) σ (upd H T (.tup [.int (i : Nat), x])) fun σ2 H2 => tb { D with nx := Pv (i + 1), ct := Pv (i + 1), bk := D.nx } σ2 H2) (hd : ∀ σ H, Pv xs.length σ H → D.nx σ H) :
    ∃ W : Nat → Nat → L2.St → Hp → Prop, (∃ m, W 0 m σ H) ∧ ∀ i m σ H, W i m σ H →
      ((IteT K a).stop i H ∧ D.nx σ H) ∨ ((IteT K a).go i H ∧ ∃ N : L2.St → Hp → Prop, (∀ σ' H', N σ' H' → ∃ m', m' < m ∧ W (i + 1) m' σ' H') ∧ ∀ v H', (IteT K a).yld i H v H' → g v σ H' fun σ2 H2 => tb { D with nx := N, ct := N, bk := D.nx } σ2 H2) := by
  refine ⟨fun i m σ H => m = xs.length - i ∧ i ≤ xs.length ∧ Pv i σ H, ⟨xs.length, rfl, Nat.zero_le _, h0⟩, ?_⟩
  rintro i m σ H ⟨rfl, hi, p⟩
  have qx := hq i σ H p
  by_cases hlt : i < xs.length
  · have hx : xs[i]? = some xs[i] := List.getElem?_eq_getElem hlt
    refine .inr ⟨⟨xs, _, qx, hx⟩, Pv (i + 1), fun σ' H' p' => ⟨xs.length - (i + 1), by omega, rfl, hlt, p'⟩, fun v H' y => ?_⟩
    obtain ⟨T, x', rfl, hT, rfl, f1⟩ := y
    exact hs i x' T σ H (f1 xs qx) p hT
  · have e : i = xs.length := by omega
    subst e
    exact .inl ⟨⟨xs, qx, rfl⟩, hd σ H p⟩
end EnumT

set_option Elab.async false
set_option linter.all false
set_option maxRecDepth 100000
set_option maxHeartbeats 2000000
/-! a comprehension over enumerate(t), t a tuple -/
namespace EnumT
open PySem PySem.Spec PyProof.Rows L2
theorem lc_enumT {K : PySem.W.Frag} {a : Addr} {xs : List V} {g : TG} {tt : TT} {te : TE} {vs : List Nat} {σ : L2.St} {H1 : Hp} {D : Addr} {Qd : Hp → Prop} (Pv : Nat → Hp → Prop) (h0 : Pv 0 (upd H1 D (.lst []))) (hq : ∀ i H, i ≤ xs.length → Pv i H → SqT K H a xs)
    (hs : ∀ (i : Nat) (x : V) (T : Addr) (H : Hp), xs[i]? = some x → Pv i H → H T = none → g (.ref T) (wipe σ vs) (upd H T (.tup [.int (i : Nat), x])) fun σ2 H2 => wipe σ2 vs = wipe σ vs ∧ tt σ2 H2 fun b H3 =>
      if b = true then te σ2 H3 fun y H4 => ∃ acc, H4 D = some (.lst acc) ∧ acc.length < sizeLine ∧ Pv (i + 1) (upd H4 D (.lst (acc ++ [y]))) else Pv (i + 1) H3) (hd : ∀ H, Pv xs.length H → Qd H) :
    ∃ W : Nat → Nat → Hp → Prop, (∃ m, W 0 m (upd H1 D (.lst []))) ∧ ∀ i m H, W i m H →
      ((IteT K a).stop i H ∧ Qd H) ∨ ((IteT K a).go i H ∧ ∃ Nx : Hp → Prop, (∀ H', Nx H' → ∃ m', m' < m ∧ W (i + 1) m' H') ∧ ∀ x H', (IteT K a).yld i H x H' → g x (wipe σ vs) H' fun σ2 H2 => wipe σ2 vs = wipe σ vs ∧ tt σ2 H2 fun b H3 =>
        if b = true then te σ2 H3 fun y H4 => ∃ acc, H4 D = some (.lst acc) ∧ acc.length < sizeLine ∧ Nx (upd H4 D (.lst (acc ++ [y]))) else Nx H3) := by
  refine ⟨fun i m H => m = xs.length - i ∧ i ≤ xs.length ∧ Pv i H, ⟨xs.length, by simp, Nat.zero_le _, h0⟩, ?_⟩
  rintro i m H ⟨rfl, hi, p⟩
  have qx := hq i H hi p
  by_cases hlt : i < xs.length
  · have hx : xs[i]? = some xs[i] := List.getElem?_eq_getElem hlt
    refine .inr ⟨⟨xs, _, qx, hx⟩, Pv (i + 1), fun H' p' => ⟨xs.length - (i + 1), by omega, rfl, hlt, p'⟩, fun v H' y => ?_⟩
    obtain ⟨T, x', rfl, hT, rfl, f1⟩ := y
    exact hs i x' T H (f1 xs qx) p hT
  · have e : i = xs.length := by omega
    subst e
    exact .inl ⟨⟨xs, qx, rfl⟩, hd H p⟩
end EnumT

set_option Elab.async false
set_option linter.all false
set_option maxRecDepth 100000
set_option maxHeartbeats 2000000
/-! the rules of OwnR, OwnL, over the facts of HookG -/
namespace OwnF
open PySem PySem.Spec PyProof.Rows L2 He SlX OwnR HookG
/-- what is asked of a class with slots -/
structure OC (K : PySem.W.Frag) (C : Addr) : Prop where
  scl : SCls K C
  sis : SIsi K C
  first : PySem.W.selfFirst K C = true
  ne : PySem.W.findIn K (.ref C) "__ne__" = some (some (.builtin "object.__ne__"))
  ntup : PySem.W.notFirst K C (.type "tuple") = true
  rmul : PySem.W.findIn K (.ref C) "__rmul__" = some none
  imul : PySem.W.findIn K (.type "int") "__mul__" = some (some (.builtin "int.__mul__"))
  irmul : PySem.W.findIn K (.type "int") "__rmul__" = some (some (.builtin "int.__rmul__"))
  isub : PySem.W.subIn K (.type "int") (.ref C) = some false
  kself : PySem.W.kitOne K (.ref C) (.ref C) = some true
  ktup : PySem.W.kitOne K (.type "tuple") (.ref C) = some false
  kint : PySem.W.kitOne K (.type "int") (.ref C) = some false
def ocB (K : PySem.W.Frag) (x : Str) : Bool := sclB K x && (sisB K x && (PySem.W.selfFirst K (ga K x) && (eqO (PySem.W.findIn K (.ref (ga K x)) "__ne__") (some (some (.builtin "object.__ne__"))) && (PySem.W.notFirst K (ga K x) (.type "tuple") && (eqO (PySem.W.findIn K (.ref (ga K x)) "__rmul__") (some none) && (eqO (PySem.W.findIn K (.type "int") "__mul__") (some (some (.builtin "int.__mul__"))) && (eqO (PySem.W.findIn K (.type "int") "__rmul__") (some (some (.builtin "int.__rmul__"))) && (dO (PySem.W.subIn K (.type "int") (.ref (ga K x))) (some false) && (dO (PySem.W.kitOne K (.ref (ga K x)) (.ref (ga K x))) (some true) && (dO (PySem.W.kitOne K (.type "tuple") (.ref (ga K x))) (some false) && dO (PySem.W.kitOne K (.type "int") (.ref (ga K x))) (some false)))))))))))
theorem ocB_ok {K : PySem.W.Frag} {x : Str} (h : ocB K x = true) : OC K (ga K x) := by
  obtain ⟨c1, c⟩ := ba h
  obtain ⟨c2, c⟩ := ba c
  obtain ⟨c3, c⟩ := ba c
  obtain ⟨c4, c⟩ := ba c
  obtain ⟨c5, c⟩ := ba c
  obtain ⟨c6, c⟩ := ba c
  obtain ⟨c7, c⟩ := ba c
  obtain ⟨c8, c⟩ := ba c
  obtain ⟨c9, c⟩ := ba c
  obtain ⟨c10, c⟩ := ba c
  obtain ⟨c11, c12⟩ := ba c
  exact ⟨sclB_ok c1, sisB_ok c2, c3, eqO_ok c4, c5, eqO_ok c6, eqO_ok c7, eqO_ok c8, dO_ok c9, dO_ok c10, dO_ok c11, dO_ok c12⟩
theorem raw0 {P : Program} {w : World} {K : PySem.W.Frag} {mg : Str → Option Value} {base : Heap} {CX : CXT} {k : Nat} {f : Addr} {sp : Sp} {fd : FuncData} {ps : List Str} (F : FnOk P w K mg base CX k f fd ps sp) (hb : Binds K fd ps []) : FnR P w K mg base CX k f sp :=
  (F.raw hb .nil).imp fun vs H Q E h => by rw [List.append_nil]; exact h
section
variable {X : Cx} {C g gl pp : Addr} {n : Nat} {sp spl : Sp} {fd fdl : FuncData} {ps psl : List Str} {f : Str} {e : Expr} {pos : Pos} {ta : TE}
theorem hx0 : ∀ (H : Hp) (s : Shared) (e : Value) (s' : Shared), CX0 X.stack H s E0 e s' → False := fun _ _ _ _ h => h
theorem pe_prp (he : PE X e ta) (c : OC X.K C) (p : Pr X.K C f pp g) (F : FnOk X.prog X.w X.K X.mg X.base CX0 n g fd ps sp) (hb : Binds X.K fd ps []) (hr : Room (n + 1) X.A) (hb2 : attributeBase e f X.env (eval e X.env) = eval e X.env := by rfl) : PE X (.Attribute e f pos) (tPropSl C sp E0 ta) :=
  pe_propSl he c.scl p.at_ p.get p.tk p.rc (raw0 F hb) hr hx0 hb2
theorem op_eqF (m : Mt X.K C "__eq__" g) (F : FnOk X.prog X.w X.K X.mg X.base CX0 n g fd ps sp) (hb : Binds X.K fd ps []) (hr : Room n X.A) : OpR X (compareOp .Eq) (rEqO X C sp E0) := op_eqO m.at_ m.fn (raw0 F hb) hr pass0
theorem iter_anyT {prog : Program} {w : World} {A : Around} {E : Value → Shared → Prop} {s : Shared} {l : Addr} {items : Array Value} {Q : Value → Shared → Prop} (hl : s.heap.IsTuple l items)
    (h : ∀ s₂ : Shared, s₂ = { s with heap := s.heap.push { cls := .type "tuple_iterator", data := .fields #[.ref l, .int 0 0] } } →
      (s₂.heap.IsTupleIter s.heap.objs.size l 0 ∧ s₂.heap.IsTuple l items) → l ≠ s.heap.objs.size → Q (.ref s.heap.objs.size) s₂) : wpAny (model prog w) A (pyIter (.ref l)) Q E s := by
  have hlt : l < s.heap.objs.size := by obtain ⟨_, e, _⟩ := hl; exact Heap.lt_size e
  exact wpAny_pyIter_tuple hl (h _ rfl ⟨⟨_, Heap.get?_push_size _ rfl, rfl, rfl⟩, hl.push _⟩ (Nat.ne_of_lt hlt))
theorem truth_ints {prog : Program} {w : World} {A : Around} {ns : List Int} {its : List Value} (r : Vals (ns.map V.int) its) :
    TruthOf prog w A (fun i v => its.toArray[i]? = some v) (fun i => ns.getD i 0 != 0) := fun i v s Q E hv hq => by
  have hv' : its[i]? = some v := by simpa using hv
  have hlen := r.length
  rw [List.length_map] at hlen
  have hlt : i < ns.length := by
    have := (List.getElem?_eq_some_iff.mp hv').1
    omega
  obtain ⟨u, hu, t, ru⟩ := r.get (show (ns.map V.int)[i]? = some (.int ns[i]) by rw [List.getElem?_map, List.getElem?_eq_getElem hlt]; rfl)
  rw [hv'] at hu
  cases hu
  subst ru
  have hg : ns.getD i 0 = ns[i] := by rw [List.getD_eq_getElem?_getD, List.getElem?_eq_getElem hlt] <;> rfl
  have hq' : Q (ns.getD i 0 != 0) s := hq
  rw [hg] at hq'
  exact truthy_int hq'
theorem any_rangeI : ∀ ns : List Int, (List.range ns.length).any (fun i => ns.getD i 0 != 0) = ns.any (· != 0)
  | [] => rfl
  | b :: bs => by
    rw [List.length_cons, List.range_succ_eq_map, List.any_cons, List.any_map, List.any_cons, ← any_rangeI bs]
    all_goals rfl
/-- any of a tuple of ints -/
def rAnyTI (K : PySem.W.Frag) : List V → Hp → VK → Prop := fun vs H Q => ∃ (a : Addr) (ns : List Int), vs = [V.ref a] ∧ SqT K H a (ns.map V.int) ∧ Q (.bl (ns.any (· != 0))) H
theorem cr_anyTI (hc : X.calm = true) : CallR X (.builtin "any") (rAnyTI X.K) := by
  intro pins s σ H vs us Q I r h
  obtain ⟨a, ns, rfl, hs, q⟩ := h
  obtain ⟨its, rv, hl, _⟩ := I.tuple hs
  rw [Vals.ref1 r]
  have hlen := rv.length
  rw [List.length_map] at hlen
  refine call_any_walk (iter_anyT (show s.heap.IsTuple a its.toArray from hl) fun s₂ e2 st hne => ?_)
  subst e2
  refine ⟨_, _, _, _, _, _, _, rfl, Walks.tuple (A := X.A.in1) (I.ok.hd hc) _ a hne its.toArray, st, truth_ints rv, fun h' tk hk => ?_⟩
  refine ⟨.bl _, H, I.kept fun b o eo => hk b o (fun hmem => ?_) (Heap.get?_push_of_some _ eo), ?_, q⟩
  · rcases List.mem_cons.mp hmem with e1 | hmem
    · exact absurd (e1 ▸ Heap.lt_size eo) (Nat.lt_irrefl _)
    · cases hmem
  · show Value.bool _ = Value.bool _
    rw [← any_rangeI, List.size_toArray, ← hlen]
/-- isinstance(x, C): x of a plain type, or an instance -/
theorem call_isiF (C : Addr) : CallR X (.builtin "isinstance") (fun xs H Q => rIsi X.K xs H Q ∨ rIsiSl X.K (.ref C) xs H Q) := call_isi.or (call_isiSl (.ref C))
end
end OwnF

set_option Elab.async false
set_option linter.all false
set_option maxRecDepth 100000
set_option maxHeartbeats 2000000
/-! a method of an instance with slots -/
namespace OwnF
open PySem PySem.Spec PyProof.Rows L2 He SlX OwnR HookG
section
variable {X : Cx} {C g : Addr} {n : Nat} {sp : Sp} {fd : FuncData} {ps : List Str} {o e : Expr} {es : List Expr} {x : Str} {pos apos : Pos} {ta : TE} {t : TA}
end
end OwnF

set_option Elab.async false
set_option linter.all false
set_option maxRecDepth 100000
set_option maxHeartbeats 2000000
/-! classmethods, classes in local names, xs[i] op= e -/
namespace OwnC
open PySem PySem.Spec PyProof.Rows L2 He SlX OwnR HookG OwnF
/-- C.m is a classmethod: its record at p, its def at g -/
structure Cm (K : PySem.W.Frag) (C : Addr) (m : Str) (p g : Addr) : Prop where
  rd : ClX.CRead K C (.type "type")
  cm : ClX.CMet K C (.type "type") m p g
section
variable {X : Cx} {C p g f : Addr} {n i : Nat} {sp : Sp} {fd : FuncData} {ps : List Str} {o e : Expr} {es : List Expr} {m x : Str} {pos apos pp : Pos} {ta : TE} {t : TA}
/-- xs[i], read for xs[i] op= e -/
def rGetL (K : PySem.W.Frag) : R2 := fun x y H Q => ∃ a xs j v, x = .ref a ∧ y = .int ((j : Nat) : Int) ∧ SqL K H a xs ∧ xs[j]? = some v ∧ Q v H
theorem get_list : PGet X (rGetL X.K) := by
  intro pins s σ H x y v u Q I rx ry h
  obtain ⟨a, xs, j, z, rfl, rfl, hq, he, q⟩ := h
  cases rx
  obtain ⟨t, rfl⟩ := ry
  obtain ⟨its, r, pl, hz⟩ := I.list hq
  obtain ⟨w, ew, rw'⟩ := r.get he
  have hl := r.length
  have hn := line63
  have hj : j < xs.length := (List.getElem?_eq_some_iff.mp he).1
  exact wpAny_getItem_list pl.isList (by omega) (by omega) (x := w) (by rw [Int.toNat_natCast]; simpa using ew) ⟨z, H, I, rw', q⟩
end
end OwnC

set_option Elab.async false
set_option linter.all false
set_option maxRecDepth 100000
set_option maxHeartbeats 2000000
/-! tuple(x) of an instance with own __iter__ (an iterator over a tuple) and own __len__ -/
namespace OwnR
open PySem PySem.Spec PyProof.Rows L2 SlX
section
variable {X : Cx} {CX : CXT} {pins : List (Addr × Obj)} {σ : L2.St} {H : Hp} {s : Shared} {C g gl t it q : Addr} {n i : Nat} {sp spl : Sp} {E : XK}
/-- tuple(x): x's items come into a list first -/
def rTupO (K : PySem.W.Frag) (C : Addr) (sp spl : Sp) (E El : XK) : List V → Hp → VK → Prop := fun xs H Q => ∃ a dx vs, xs = [V.ref a] ∧ Slt H a C dx vs ∧ ∀ q, H q = none → sp [.ref a] (upd H q (.lst [])) (fun v H2 => ∃ it t ys dx2 vs2, v = .ref it ∧ H2 it = some (ItT t it 0) ∧ SqT K H2 t ys ∧ H2 q = some (.lst []) ∧ Slt H2 a C dx2 vs2 ∧
  spl [.ref a] H2 (fun z H3 => ∃ k : Int, z = .int k ∧ (0 ≤ k ∧ k ≤ sizeLine) ∧ H3 it = some (ItT t it 0) ∧ SqT K H3 t ys ∧ H3 q = some (.lst []) ∧ ys.length ≤ 1000 ∧ ∀ H4 p, H4 q = some (.lst ys) → (∀ b o, b ≠ it → b ≠ q → H3 b = some o → H4 b = some o) → H4 p = none → Q (.ref p) (upd H4 p (.tup ys))) El) E
theorem collect_own {E El : XK} {Q : VK} {Q0 : List Value → Shared → Prop} {EE : Value → Shared → Prop} (hi : PySem.W.findIn X.K (.ref C) "__iter__" = some (some (.ref g))) (hfi : PySem.W.isFn X.K (.ref g) = true) (F : FnR X.prog X.w X.K X.mg X.base CX n g sp) (hsl : PySem.W.findIn X.K (.ref C) "__len__" = some (some (.ref gl))) (hfl : PySem.W.isFn X.K (.ref gl) = true) (Fl : FnR X.prog X.w X.K X.mg X.base CX n gl spl)
    (hr : Room (n + 4) X.A) (hhd : X.A.handled = none) (hx : ∀ (H : Hp) (s : Shared) (e : Value) (s' : Shared), CX X.stack H s E e s' → False) (hxl : ∀ (H : Hp) (s : Shared) (e : Value) (s' : Shared), CX X.stack H s El e s' → False) (I : Inv X pins σ H s) {a : Addr} (h : rTupO X.K C sp spl E El [.ref a] H Q)
    (hQ0 : ∀ us s4 H4 ys, Inv X pins σ H4 s4 → Vals ys us → ys.length ≤ 1000 → (∀ p, H4 p = none → Q (.ref p) (upd H4 p (.tup ys))) → Q0 us s4) :
    wpAny (model X.prog X.w) X.A.in1.in1 (collect (.ref a)) Q0 EE s := by
  obtain ⟨a', dx, vs, ea, ha, hq⟩ := h
  obtain rfl : a = a' := V.ref.inj (List.cons.inj ea).1
  have r1 : Room (n + 3) X.A.in1 := Room.in1 hr
  have r2 : Room (n + 2) X.A.in1.in1 := Room.in1 r1
  have r3 : Room (n + 1) X.A.in1.in1.in1 := Room.in1 r2
  have r4 : Room n X.A.in1.in1.in1.in1 := Room.in1 r3
  unfold collect
  refine wpAny_bind (wpAny_runValue (codeAny_builtin PySem.F.entry_proto_collect ?_))
  rw [Around.under_plainId PySem.F.plain_proto_collect _]
  show wpAny _ X.A.in1.in1.in1 (newList [] >>= fun l => again (.builtin "list.__iadd__" ⟨[l, .ref a], []⟩)) _ _ s
  refine wpAny_bind (wpAny_newObj_type ?_)
  refine wpAny_pure ⟨plainId_quiet PySem.F.plain_list_iadd _, codeAny_builtin PySem.F.entry_list_iadd ?_⟩
  rw [Around.under_plainId PySem.F.plain_list_iadd _]
  have fr : H s.heap.objs.size = none := I.hok.fresh (Nat.le_refl _)
  have hsp := hq _ fr
  have ha2 := slt_upd (o := .lst []) ha fr
  generalize hqq : s.heap.objs.size = q at *
  have I2 : Inv X pins σ (upd H q (.lst [])) { s with heap := s.heap.push { cls := .type "list", data := .seq #[] } } := by
    have := I.lnew (ys := []) (its := []) (t' := s.toks) .nil (Nat.zero_le _)
    rw [hqq] at this
    exact this
  show wpAny _ X.A.in1.in1.in1 (Builtin.List.listExtendWith (.ref q) (.ref a) (.ref q)) _ _ _
  generalize ({ heap := _, gens := _, drawn := _, toks := _, os := _ } : Shared) = s2 at I2 ⊢
  have hne : q ≠ a := fun e => by
    rw [e] at fr
    rcases ha with ⟨h1, _⟩ | ⟨h1, _⟩ <;> rw [h1] at fr <;> cases fr
  obtain ⟨sl, od, _, J, _⟩ := slt_inst I2 ha2
  obtain ⟨m0, hF⟩ := I2.fr
  unfold Builtin.List.listExtendWith
  refine wpAny_bind (J.type.here ?_)
  have h1 : Builtin.List.listSameRef (.ref q) (.ref a) = false := by simp [Builtin.List.listSameRef, hne]
  have h2 : (Value.ref C == Value.type "list") = false := rfl
  have h3 : (Value.ref C == Value.type "tuple") = false := rfl
  simp only [h1, h2, h3, Bool.or_false, Bool.false_eq_true, if_false]
  have e0 : Env0 X.prog X.w X.K X.mg X.base X.A.in1.in1.in1 X.stack s2 (upd H q (.lst [])) := I2.env0.in1.in1.in1
  refine wpAny_bind (PySem.W.owit_iter hF I2.ok.mod.kin J hi hfi (wpAny_call (run_at0 (us := [.ref a]) (ws := [.ref a]) F (r3.mono (by omega)) e0 hx I2 (.cons rfl .nil) hsp fun v s' z => ?_)))
  obtain ⟨z', H2, I3, rz, it, t, ys, dx2, vs2, ez, hit, ht, hqL, ha3, hl⟩ := z
  subst ez
  cases (show v = Value.ref it from rz)
  have hti : IsTupIter s'.heap it t 0 := (I3.hok it _ hit).1
  unfold PySem.W.OwitIt
  refine wpAny_bind (wpAny_typeOf hti.typeIs (wpAny_of_eq slot_tupleiter_next.lookup ?_))
  show wpAny _ _ (holding [.ref it] (Builtin.List.listLengthHint (.ref a)) >>= _) _ _ _
  refine wpAny_bind (wpAny_holding (hint_len hsl hfl Fl r4 rfl hxl I3 ha3 hl fun z H3 hz => ?_))
  obtain ⟨k, ek, hk, hit3, ht3, hq3, hy3, hQ⟩ := hz
  refine ⟨k, ek, hk, fun s3 b I4 => ?_⟩
  have hnq : it ≠ q := fun e => by
    rw [e, hq3] at hit3
    cases hit3
  have fin : ∀ s4, Inv X pins σ H3 s4 → codeAny (model X.prog X.w) X.A.in1.in1 (.builtin "list.extend.loop" ⟨[.ref q, .ref it, .ref q], []⟩) _ s4 := fun s4 I5 =>
    tk_loop (A1 := X.A.in1.in1) (H0 := H3) (ys := ys) (res := .ref q) (Rs := wants (fun v s' => wpAny (model X.prog X.w) X.A.in1.in1 (match v with
      | Value.ref a => do
        match (← load a).data with
          | Data.seq xs _ => pure xs.toList
          | _ => unsupported "internal:collect"
      | _ => unsupported "internal:collect") Q0 EE s') EE) hhd hnq (fun H5 s5 I6 e1 e2 => by
        obtain ⟨z5, its5, k5, r5, hl5, e5⟩ := I6.lstM e1
        show wpAny _ X.A.in1.in1 (load q >>= _) _ _ s5
        refine wpAny_bind (wpAny_load e5 (wpAny_pure ?_))
        exact hQ0 _ s5 H5 ys I6 r5 hy3 fun p hp => hQ H5 p e1 e2 hp) ys.length 0 H3 s4 (by omega) I5 ⟨hit3, ht3, by rw [List.take_zero]; exact hq3, fun b o _ _ e => e⟩
  obtain ⟨z3, its, k3, r3', hl3, e3⟩ := I4.lstM hq3
  cases r3'
  refine wpAny_ite_split (fun _ => ?_) (fun _ => wpAny_pure ⟨plainId_quiet PySem.F.plain_extend_loop _, fin _ I4⟩)
  refine wpAny_bind (wpAny_rule ?_)
  refine wpAny_bind ?_
  show wpAny _ _ (updateSeq q (·.push .none) >>= fun _ => updateSeq q (·.pop)) _ _ _
  refine wpAny_bind (wpAny_updateSeq e3 rfl ?_)
  have I5 := I4.lset (f := (·.push Value.none)) (its' := [Value.none]) (ys := [.non]) (t' := s3.toks) hq3 e3 (by simp) (.cons rfl .nil) (by rw [List.length_singleton, sizeLine_eq]; decide)
  obtain ⟨z4, its4, k4, r4, hl4, e4⟩ := I5.lstM upd_same
  obtain ⟨u4, rfl, ru4⟩ := r4.one
  refine wpAny_updateSeq e4 rfl ?_ (by show 1 ≤ sizeLine; rw [sizeLine_eq]; decide) (by show 0 ≤ sizeLine + 1; exact Nat.zero_le _)
  refine wpAny_pure ⟨plainId_quiet PySem.F.plain_extend_loop _, fin _ ?_⟩
  have I6 := I5.lset (f := (·.pop)) (its := [u4]) (its' := []) (ys := []) (t' := s3.toks) upd_same e4 (by rfl) .nil (Nat.zero_le _)
  rw [upd_upd] at I6
  have hH : upd H3 q (.lst []) = H3 := by
    funext b
    by_cases hb : b = q
    · rw [hb, upd_same, hq3]
    · rw [upd_ne hb]
  rw [hH] at I6
  exact I6
theorem call_tupleO {E El : XK} (hi : PySem.W.findIn X.K (.ref C) "__iter__" = some (some (.ref g))) (hfi : PySem.W.isFn X.K (.ref g) = true) (F : FnR X.prog X.w X.K X.mg X.base CX n g sp) (hsl : PySem.W.findIn X.K (.ref C) "__len__" = some (some (.ref gl))) (hfl : PySem.W.isFn X.K (.ref gl) = true) (Fl : FnR X.prog X.w X.K X.mg X.base CX n gl spl)
    (hr : Room (n + 4) X.A) (hhd : X.A.handled = none) (hx : ∀ (H : Hp) (s : Shared) (e : Value) (s' : Shared), CX X.stack H s E e s' → False) (hxl : ∀ (H : Hp) (s : Shared) (e : Value) (s' : Shared), CX X.stack H s El e s' → False) : CallR X (.type "tuple") (rTupO X.K C sp spl E El) := by
  intro pins s σ H xs us Q I rv h
  obtain ⟨a, dx, vs, rfl, ha, hq⟩ := id h
  obtain ⟨u, rfl, ru⟩ := rv.one
  cases ru
  obtain ⟨sl, od, _, J, _⟩ := slt_inst I ha
  refine callType_codes (Q₁ := fun obj s₁ => s₁.TypeIs obj "tuple" ∧ EP X pins σ Q obj s₁) PySem.F.called_tuple (PySem.F.typeCall_tuple_1 _) PySem.F.entry_object_init (codeAny_of_tree ?_) fun obj s₁ h₁ => ⟨h₁.1, PySem.F.args_object_init_2 obj _, object_init_meets PySem.F.called_tuple.init.lookup PySem.F.called_tuple.made (by decide) X.prog X.w X.A.in1 _ s₁ ⟨h₁.1, rfl, h₁.2⟩⟩
  show wpAny _ X.A.in1.in1 (do checkBuiltinCall "tuple.__new__" ⟨[.type "tuple", .ref a], []⟩; again (.builtin "tuple.__new__" ⟨[.type "tuple", .ref a], []⟩)) _ _ s
  refine wpAny_bind (wpAny_of_eq (PySem.F.newCall_tuple_1 _) (wpAny_pure ⟨plainId_quiet PySem.F.plain_tuple_new _, codeAny_builtin PySem.F.entry_tuple_new ?_⟩))
  rw [Around.under_plainId PySem.F.plain_tuple_new _]
  have hsub := sub_tuple_self
  have hinit := init_tuple_lookup
  have hmh := madeHere_tuple
  wp_walk using J.type.here, collect_own hi hfi F hsl hfl Fl hr hhd hx hxl I h
  intro us s4 H4 ys I4 r4 hy q4
  have hl := r4.length
  have hz : us.length ≤ sizeLine := by
    rw [← hl]
    exact Nat.le_trans hy (by decide)
  show wpAny _ _ (Builtin.Tuple.tupleExact us.toArray >>= fun v => ret v) _ _ _
  unfold Builtin.Tuple.tupleExact
  refine wpAny_bind (wpAny_newObj_type ?_ (by show us.toArray.size ≤ sizeLine; rw [List.size_toArray]; exact hz))
  refine wpAny_pure ⟨⟨_, Heap.get?_push_size _ rfl, rfl⟩, .ref s4.heap.objs.size, _, I4.laid (o := .tup ys) (t' := s4.toks) (fun b u e => Heap.get?_push_of_some _ e) (Nat.le_refl _) ⟨by rw [hl]; exact hz, us, r4, ⟨_, Heap.get?_push_size _ rfl, rfl, _, rfl⟩⟩, rfl, q4 _ (I4.hok.fresh (Nat.le_refl _))⟩
end
section
variable {X : Cx} {C g gl : Addr} {n : Nat} {sp spl : Sp} {fd fdl : FuncData} {ps psl : List Str}
theorem call_tupleF (m : HookG.Mt X.K C "__iter__" g) (F : FnOk X.prog X.w X.K X.mg X.base CX0 n g fd ps sp) (hb : Binds X.K fd ps []) (ml : HookG.Mt X.K C "__len__" gl) (Fl : FnOk X.prog X.w X.K X.mg X.base CX0 n gl fdl psl spl) (hbl : Binds X.K fdl psl []) (hr : Room (n + 4) X.A) : CallR X (.type "tuple") (rTupO X.K C sp spl E0 E0) :=
  call_tupleO m.at_ m.fn (OwnF.raw0 F hb) ml.at_ ml.fn (OwnF.raw0 Fl hbl) hr hr.hd OwnF.hx0 OwnF.hx0
end
end OwnR

set_option Elab.async false
set_option linter.all false
set_option maxRecDepth 100000
set_option maxHeartbeats 2000000
/-! == and != of tuples of instances with slots, by their own ==, item by item alike -/
namespace OwnTE
open PySem PySem.Spec PyProof.Rows L2 SlX OwnR OwnF HookG
open PySem.SeqAt AutoSeq1 MeetsSeq MeetsSeq2 MeetsSeq3 GQ
section
variable {prog : Program} {w : World} {A : Around} {R : Result → Shared → Prop}
end
section
variable {prog : Program} {w : World} {A : Around} {E : Value → Shared → Prop} {s : Shared}
end
section
variable {X : Cx} {n : Nat} {C g : Addr} {fd : FuncData} {ps : List Str} {sp : Sp}
end
end OwnTE

set_option Elab.async false
set_option linter.all false
set_option maxRecDepth 100000
set_option maxHeartbeats 2000000
/-! sequences that may be a list or a tuple: len, index, enumerate -/
namespace SeqE
open PySem PySem.Spec PyProof.Rows L2
/-- at a a list or a tuple with these items -/
def Sq (H : Hp) (a : Addr) (xs : List V) : Prop := H a = some (.tup xs) ∨ H a = some (.lst xs)
theorem Sq.same {H H' : Hp} {a : Addr} {xs : List V} (h : Sq H a xs) (s : Same H H') : Sq H' a xs := h.elim (fun e => .inl (s _ _ e)) fun e => .inr (s _ _ e)
theorem Sq.upd {H : Hp} {a p : Addr} {o : HO} {xs : List V} (h : Sq H a xs) (hp : H p = none) : Sq (upd H p o) a xs := by
  refine h.elim (fun e => .inl ?_) fun e => .inr ?_ <;> rw [upd_ne (ne_of_none e hp)] <;> exact e
theorem PI_or {X : Cx} {tg it : Expr} {t1 t2 : TI} (h1 : PI X tg it t1) (h2 : PI X tg it t2) : PI X tg it (fun σ H R => t1 σ H R ∨ t2 σ H R) :=
  ⟨fun pins s σ H R I h => h.elim (h1.run pins s σ H R I) (h2.run pins s σ H R I)⟩
end SeqE

set_option Elab.async false
set_option linter.all false
set_option maxRecDepth 100000
set_option maxHeartbeats 2000000
/-! next(.. for .. in .. if .., default) -/
namespace GenNx
open PySem PySem.Spec PyProof.Rows L2 GxR EnumT
section
variable {prog : Program} {w : World} {A : Around} {E : Value → Shared → Prop} {s : Shared} {I : Addr} {fp wr : List Addr} {G : Array GenState → Array GenState → Prop} {n : Nat} {Pv : Nat → Value → Prop} {St : Nat → Shared → Prop}
/-- next(generator, default): the first item, or the default -/
theorem call_next_walkS {d : Value} {Q : Value → Shared → Prop} (W : WalksS prog w A.in1 I fp wr G n Pv St) (hT : s.TypeIs (.ref I) "generator") (st : St 0 s)
    (h1 : ∀ v s', 0 < n → Pv 0 v → Moved wr G s s' → Q v s') (h2 : ∀ s', n = 0 → Moved wr G s s' → Q d s') : wpAny (model prog w) A (call (.builtin "next") [.ref I, d]) Q E s := by
  refine Calls.call_function_entry (by decide +kernel) (by decide +kernel) PySem.W.kdk_entry_next (PySem.W.kdk_args_next2 _ _) ?_
  unfold Builtin.«next»
  refine wpAny_bind (m := someArgs "next" 1 2 _) (wpAny_of_eq (a := [Value.ref I, d]) (by first | rfl | kernel_rfl!) ?_)
  dsimp only
  refine wpAny_bind (wpAny_specialOf (name := Str.ofString "__next__") hT slot_gen_next.lookup ?_)
  refine wpAny_ite_split (fun hab => absurd hab (by decide)) (fun _ => ?_)
  by_cases hn : 0 < n
  · refine wpAny_bind (W.item 0 _ _ _ hn st fun v s' hv _ hm => ?_)
    exact wpAny_pure ⟨_, rfl, h1 v s' hn hv hm⟩
  · have e : n = 0 := by omega
    refine wpAny_bind (W.done _ _ _ (by rw [e]; exact st) fun s' hm => ?_)
    exact wpAny_pure ⟨_, rfl, h2 s' e hm⟩
end
/-- the generator expression's own scope: its names xa, xb -/
structure GenS2 (env : Env) (scope : Scope) (xa xb : Str) : Prop where
  kind : scope.kind = .function
  co : scope.isCoroutine = false
  cell : ∀ y ∈ scope.names, y.2 ≠ .cell
  dot : scope.names.lookup (".0" : Str) = some NameKind.local
  la : scope.names.lookup xa = some .local
  lb : scope.names.lookup xb = some .local
  ab : xa ≠ xb
  free : ∀ y ∈ scope.names, y.2 = .free → ∃ c, env.cells.lookup y.1 = some c
theorem GenS2.of {env : Env} {scope : Scope} {xa xb : Str} (h1 : scope.kind = .function) (h2 : scope.isCoroutine = false) (h3 : ∀ y ∈ scope.names, y.2 ≠ .cell ∧ y.2 ≠ .free) (h4 : scope.names.lookup (".0" : Str) = some NameKind.local) (h5 : scope.names.lookup xa = some .local) (h6 : scope.names.lookup xb = some .local) (h7 : xa ≠ xb) : GenS2 env scope xa xb :=
  ⟨h1, h2, fun y hy => (h3 y hy).1, h4, h5, h6, h7, fun y hy z => absurd z (h3 y hy).2⟩
theorem genS_of {env : Env} {scope : Scope} {x : Str} (h1 : scope.kind = .function) (h2 : scope.isCoroutine = false) (h3 : ∀ y ∈ scope.names, y.2 ≠ .cell ∧ y.2 ≠ .free) (h4 : scope.names.lookup (".0" : Str) = some NameKind.local) (h5 : scope.names.lookup x = some .local) : GxR.GenS env scope x :=
  ⟨h1, h2, fun y hy => (h3 y hy).1, h4, h5, fun y hy z => absurd z (h3 y hy).2⟩
/-- a test of the int in x -/
def TestI (prog : Program) (w : World) (scope : Scope) (x : Str) (c : Expr) (pb : Int → Bool) : Prop :=
  ∀ (cenv : Env) (A' : Around) (E' : Value → Shared → Prop) (i : Int) (t : Tok) (s₂ : Shared) (m₂ : Str → Option Value), cenv.scope = scope → s₂.heap.Ns cenv.locals m₂ → m₂ x = some (.int i t) →
    wpAny (model prog w) A' (isTrue c cenv (eval c cenv)) (fun ok s₃ => ok = pb i ∧ Keeps s₂ s₃) E' s₂
theorem test_ne0 {prog : Program} {w : World} {scope : Scope} {x : Str} {j : Nat} {p1 p2 p3 : Pos} (hk : scope.kind = .function) (hl : scope.names.lookup x = some .local) (hd : (x == ("__debug__" : Str)) = false := by decide) :
    TestI prog w scope x (.Compare (.Name x p1) [.NotEq] [.Constant (.int 0) j p2] p3) (fun i => i != 0) := by
  intro cenv A' E' i t s₂ m₂ hs hn hm
  refine wpAny_isTrue_Compare1 ?_
  refine wpAny_Name (wpAny_loadName_local (by rw [hs]; exact hk) (show cenv.scope.names.lookup x = some .local by rw [hs]; exact hl) hn hm ?_) hd
  refine wpAny_Constant_int ?_
  exact PySem.P.ne_int (wpAny_truthy_bool ⟨rfl, keeps_tok _ _⟩)
/-- the element is the int in x -/
theorem elt_name {prog : Program} {w : World} {cenv : Env} {A' : Around} {E' : Value → Shared → Prop} {x : Str} {p1 : Pos} {v : Value} {s₂ : Shared} {m₂ : Str → Option Value} {scope : Scope} (hs : cenv.scope = scope) (hk : scope.kind = .function) (hl : scope.names.lookup x = some .local) (hn : s₂.heap.Ns cenv.locals m₂) (hm : m₂ x = some v) (hd : (x == ("__debug__" : Str)) = false := by decide) :
    wpAny (model prog w) A' (eval (.Name x p1) cenv) (fun y s₃ => y = v ∧ Keeps s₂ s₃) E' s₂ :=
  wpAny_Name (wpAny_loadName_local (by rw [hs]; exact hk) (show cenv.scope.names.lookup x = some .local by rw [hs]; exact hl) hn hm ⟨rfl, keeps_refl _⟩) hd
theorem one_if {M : Model} {A : Around} {E : Value → Shared → Prop} {s : Shared} {c : Expr} {cenv : Env} {Q : Bool → Shared → Prop} (h : wpAny M A (isTrue c cenv (eval c cenv)) Q E s) :
    wpAny M A (forIn [c] true fun c r => if r = true then do let ok ← isTrue c cenv (eval c cenv); pure (ForInStep.yield ok) else pure (ForInStep.yield r)) Q E s := by
  simp only [List.forIn_cons, List.forIn_nil, if_true]
  exact wpAny_bind (wpAny_bind (wpAny_mono h (fun ok s' hq => wpAny_pure (wpAny_pure hq)) fun _ _ e => e))
section
variable {X : Cx} {pins : List (Addr × Obj)} {σ : L2.St} {H : Hp} {s : Shared}
/-- the generator g, ready to be asked, its j-th item is tied by F to the j-th place of js -/
def ReadyN (X : Cx) (pins : List (Addr × Obj)) (σ : L2.St) (H1 : Hp) (P : Addr) (js : List Nat) (F : Nat → Value → Prop) (g : Addr) (s5 : Shared) : Prop :=
  ∃ (fp wr : List Addr) (G : Array GenState → Array GenState → Prop) (St : Nat → Shared → Prop),
    WalksS X.prog X.w X.A.in1 g fp wr G js.length (fun j y => ∃ i, js[j]? = some i ∧ F i y) St ∧ St 0 s5 ∧ s5.TypeIs (.ref g) "generator" ∧
    ∀ s', Moved wr G s5 s' → ∃ H2, Tabbed P H1 H2 ∧ Inv X pins σ H2 s'
def pzL (pb : Int → Bool) (l : List Int) (i : Nat) : Bool := match l[i]? with
  | some z => pb z
  | none => false
theorem pzL_some {pb : Int → Bool} {l : List Int} {i : Nat} {z : Int} (h : l[i]? = some z) : pzL pb l i = pb z := by
  unfold pzL
  rw [h]
/-- an item of a row of ints, by values -/
theorem int_item {l : List Int} {its : List Value} (rv : Vals (l.map V.int) its) {i : Nat} {x : Value} (h : its[i]? = some x) : ∃ z t, l[i]? = some z ∧ x = .int z t := by
  have hl := rv.length
  have hi : i < its.length := (List.getElem?_eq_some_iff.mp h).1
  rw [List.length_map] at hl
  have hi2 : i < l.length := by omega
  obtain ⟨u, hu, ru⟩ := rv.get (i := i) (x := .int l[i]) (by rw [List.getElem?_map, List.getElem?_eq_getElem hi2]; rfl)
  obtain ⟨t, rfl⟩ := ru
  rw [h] at hu
  exact ⟨l[i], t, List.getElem?_eq_getElem hi2, Option.some.inj hu⟩
theorem gen_enum {c P : Addr} {e ct : Expr} {xa xb : Str} {pa pb' pt pn cpos gpos : Pos} {kt : Nat} {scope : Scope} {pb : Int → Bool} {ta : TA} {k : Nat} {p1 : Pos} {Q' : Value → Shared → Prop} {R : Addr → List Int → Hp → Prop}
    (hr : Room k X.A) (TB : TabB X.base X.mg c P) (hcode : X.env.code = .ref c) (S : GenS2 X.env scope xa xb) (hg : Gl X "enumerate") (hm : X.mg "enumerate" = none) (ha : PA X [e] ta) (hst : starEach [e] X.env = [(false, eval e X.env)])
    (htest : TestI X.prog X.w scope xb ct pb) (hda : (xa == ("__debug__" : Str)) = false)
    (hs : ∀ v, genFold (.Call (.Name "enumerate" pn) [e] [] cpos) X.env v = pure v) (I : Inv X pins σ H s) (h : ta σ H fun vs H1 => ∃ (t : Addr) (l : List Int), vs = [.ref t] ∧ SqT X.K H1 t (l.map V.int) ∧ TabG H1 P ∧ R t l H1)
    (hQ : ∀ t l H1 g s5, R t l H1 → ReadyN X pins σ H1 P (passing (pzL pb l) l.length 0) (fun i y => ∃ u, y = .int (i : Nat) u) g s5 → Q' (.ref g) s5) :
    wpAny (model X.prog X.w) X.A (eval (.GeneratorExp (.Name xa p1) [⟨.Tuple [.Name xa pa, .Name xb pb'] kt pt, .Call (.Name "enumerate" pn) [e] [] cpos, [ct], 0⟩] scope gpos) X.env) Q' X.xe s := by
  refine wpAny_GeneratorExp_walksQT hr.hd S.co (closure_ok S.free) S.cell S.dot S.la S.lb S.ab S.kind (by have := hr.dp; omega) ?_ hs
  refine Call_ (ld_blt I hg hm boot_enumerate (PyProof.Rows.callWith_type1 (thn (ha.run cpos pins s σ H _ I h) fun us s1 hv => ?_) hst rfl))
  obtain ⟨vs, H1, I1, r1, t, l, rfl, hq, ⟨ps, hP, ht⟩, q1⟩ := hv
  cases r1 with
  | cons r rr =>
    cases rr
    cases r
    obtain ⟨its, rv, p', hz⟩ := I1.tuple hq
    have pT : s1.heap.IsTuple t its.toArray := p'
    have hlt : t < s1.heap.objs.size := by obtain ⟨_, ho, _⟩ := p'; exact Heap.lt_size ho
    refine call_enumT pT fun h2 he hit hsz2 hk2 => wpAny_pyIter_enum he ?_
    have hPs : s1.heap.get? P = some { cls := .none, data := .fields ps } := I1.hok P _ hP
    have hPlt : P < s1.heap.objs.size := Heap.lt_size hPs
    have hP2 : h2.get? P = some { cls := .none, data := .fields ps } := hk2 _ _ hPs
    have cd : PySem.W.CodeHd h2 c P := TB.code.keeps fun b u e => hk2 _ _ (I1.bk b u e)
    have lim2 : h2.NoLimit := I1.nolimit.keeps hk2
    have hll := rv.length
    rw [List.length_map] at hll
    have tP : t ≠ P := fun z => by
      obtain ⟨o, ho, _, n, hd⟩ := pT
      rw [z, hPs] at ho
      cases ho
      cases hd
    have hzn : its.toArray.size = l.length := by rw [List.size_toArray]; omega
    have WT : ∀ A' : Around, A'.handled = none → WalksU X.prog X.w A' (s1.heap.objs.size + 1) _ _ _ _ _ _ := fun A' hA =>
      (WalksT.enumerateD (A := A') (Draws.tuple (prog := X.prog) (w := X.w) (A := A'.in1) hA s1.heap.objs.size t (Nat.ne_of_lt hlt) its.toArray) (s1.heap.objs.size + 1) (Nat.succ_ne_self _) (fun hm => by
        rcases List.mem_cons.mp hm with e | hm
        · exact Nat.succ_ne_self _ e
        · exact Nat.ne_of_gt (Nat.lt_succ_of_lt hlt) (List.mem_singleton.mp hm)) (by simp)).toU
    have cont : ∀ (code : Value) (h3 : Heap) (tk : Nat) (ps' : Array Value), Heap.ExtBut P h2 h3 → h2.objs.size ≤ h3.objs.size → h3.get? P = some { cls := .none, data := .fields ps' } → (∃ more, ps' = ps ++ more) → TriplesOk ps'.toList →
        wpAny (model X.prog X.w) X.A (builtinsFor X.env.globals X.env.builtins) (fun bi s₄ =>
          ∃ Ia fp wr n₀ Pt St₀ Mid pz F, Value.ref (s1.heap.objs.size + 1) = .ref Ia ∧ (∀ A' : Around, A'.handled = none → WalksU X.prog X.w A' Ia fp wr n₀ Pt St₀ Mid) ∧ (∀ i vals, Pt i vals → ∃ va vb, vals = #[va, vb]) ∧ St₀ 0 s₄.heap ∧ (∀ b ∈ fp, b < s₄.heap.objs.size) ∧ s₄.heap.NoLimit ∧ cStatics ∉ wr ∧
            (∀ href : Heap, (∀ b o, s₄.heap.get? b = some o → href.get? b = some o) →
              QuietGenT X.prog X.w (genEnv scope (cloFrom X.env.cells scope.names []) s₄.heap.objs.size code bi X.env) xa xb [ct] (.Name xa p1) (List.range s₄.heap.objs.size) wr Pt pz F href) ∧
            (∀ a h₅ tk gs, gs.bare = true → s₄.heap.objs.size < a → h₅.objs.size = a + 1 → (∀ b o, s₄.heap.get? b = some o → h₅.get? b = some o) →
              WalksS X.prog X.w X.A.in4 a (a :: s₄.heap.objs.size :: List.range s₄.heap.objs.size) (s₄.heap.objs.size :: wr) (GenOnlyQ s₄.gens.size) (passing pz n₀ 0).length
                (fun j y => ∃ i, (passing pz n₀ 0)[j]? = some i ∧ F i y) (GenAt X.prog X.w X.A.in4 a s₄.gens.size s₄.heap.objs.size (List.range s₄.heap.objs.size) wr pz n₀ F) →
              GenAt X.prog X.w X.A.in4 a s₄.gens.size s₄.heap.objs.size (List.range s₄.heap.objs.size) wr pz n₀ F 0 { s₄ with gens := s₄.gens.push gs, toks := tk, heap := h₅ } →
              Q' (.ref a) { s₄ with gens := s₄.gens.push gs, toks := tk, heap := h₅ })) X.xe { s1 with heap := h3, toks := tk } := by
      intro code h3 tk ps' hx hsz hP3 hmore ht3
      obtain ⟨bm, ob, e1, e2, e3, e4, e5, e6, e7, e8⟩ := TB.bm
      have hcP : cStatics ≠ P := fun e => by
        obtain ⟨_, hns, _⟩ := I1.nolimit
        obtain ⟨o', es, ep, ho, hd, _⟩ := hns
        rw [e, hPs] at ho
        cases ho
        cases hd
      have hcl : cStatics < s1.heap.objs.size := let ⟨_, hns, _⟩ := I1.nolimit; hns.lt
      have keep3 : ∀ b u, b ≠ P → s1.heap.get? b = some u → h3.get? b = some u := fun b u hb e => hx b u hb (hk2 _ _ e)
      have eP : s1.heap.objs.size + 1 ≠ P := fun z => Nat.lt_irrefl _ (Nat.lt_of_succ_lt (z ▸ hPlt))
      have iP : s1.heap.objs.size ≠ P := fun z => Nat.lt_irrefl _ (z ▸ hPlt)
      have off : ∀ b, b < s1.heap.objs.size → b ∉ [s1.heap.objs.size + 1, s1.heap.objs.size] := fun b hb hm => by
        have hm' : b = s1.heap.objs.size + 1 ∨ b = s1.heap.objs.size := by simpa using hm
        rcases hm' with z | z <;> omega
      refine wpAny_builtinsFor (m := X.mg) (by rw [I1.ok.glob]; exact (((I1.mod.glob.keeps I1.bk).keeps hk2).extBut hx TB.gP)) e1 e2 (keep3 _ _ e4 (I1.bk _ _ e5)) e6 e7 e8 ?_
      refine ⟨s1.heap.objs.size + 1, _, _, _, _, _, _, pzL pb l, (fun i y => ∃ u, y = .int (i : Nat) u), rfl, WT, ?_, ⟨⟨_, hx _ _ eP he⟩, hit.at fun o q => hx _ o iP q, pT.at fun o q => keep3 _ o tP q⟩, ?_, lim2.extBut hx hcP, off _ hcl, ?_, ?_⟩
      · rintro i vals ⟨u, x, hxi, rfl⟩
        exact ⟨_, _, rfl⟩
      · intro b hb
        have hb' : b = s1.heap.objs.size + 1 ∨ b = s1.heap.objs.size ∨ b = t := by simpa using hb
        show b < h3.objs.size
        rcases hb' with z | z | z
        · rw [z]
          show s1.heap.objs.size + 1 < h3.objs.size
          omega
        · rw [z]
          show s1.heap.objs.size < h3.objs.size
          omega
        · rw [z]
          exact Nat.lt_of_lt_of_le hlt (show s1.heap.objs.size ≤ h3.objs.size by omega)
      · intro href hhref
        refine ⟨fun A' E' i va vb s₂ m₂ hA hPv hn hma hmb hk => ?_, fun A' E' i va vb s₂ m₂ hA hPv hp hn hma hmb hk => ?_⟩
        · obtain ⟨u, x, hxi, ev⟩ := hPv
          cases ev
          have hxi' : its[i]? = some vb := by simpa using hxi
          obtain ⟨z, t2, hz1, rfl⟩ := int_item rv hxi'
          refine one_if (wpAny_mono (htest _ A' E' z t2 s₂ m₂ rfl hn hmb) (fun ok s3 q => ⟨?_, q.2⟩) fun _ _ e => e)
          rw [pzL_some hz1]
          exact q.1
        · obtain ⟨u, x, hxi, ev⟩ := hPv
          cases ev
          exact wpAny_mono (elt_name (scope := scope) rfl S.kind S.la hn hma hda) (fun y s3 q => ⟨⟨u, q.1⟩, q.2⟩) fun _ _ e => e
      · intro g h5 tk5 gs hgb hag hsz5 hk5 W5 hat
        rw [hzn] at W5
        refine hQ t l H1 g _ q1 ⟨_, _, _, _, W5.in4_1, ?_, hat.1.typeIs, fun s' hm => ?_⟩
        · rw [hzn] at hat
          exact hat
        · obtain ⟨more, em⟩ := hmore
          have nwr : ∀ b u, s1.heap.get? b = some u → b ∉ h3.objs.size :: [s1.heap.objs.size + 1, s1.heap.objs.size] := fun b u e hb => by
            have hl := Heap.lt_size e
            rcases List.mem_cons.mp hb with z | z
            · rw [z] at hl
              have h9 : (h3.objs.size : Nat) < s1.heap.objs.size := hl
              omega
            · exact off b hl z
          have J := inv_tab (more := more) (h' := s'.heap) (g' := s'.gens) (d' := s'.drawn) (t' := s'.toks) I1 hP (fun b u hb e => hm.heap b u (nwr b u e) (hk5 b u (keep3 b u hb e)))
            (by rw [← em]; exact hm.heap P _ (nwr P _ hPs) (hk5 P _ hP3)) (AllBare.movedS (I1.bare.push hgb) hm)
          rw [sh_eta s1 s' hm.os] at J
          refine ⟨upd H1 P (.tbl (ps ++ more)), ⟨⟨ps ++ more, upd_same, by rw [← em]; exact ht3⟩, fun b hb => upd_ne hb⟩, J⟩
    refine ⟨lim2, ?_⟩
    cases hf : codeAmong gpos ps.toList with
    | none =>
      refine wpAny_genexprCodeX hcode (cd.code hP2 ht) (cd.tab hP2) hf fun c' h' tk hx hge hlt hco' _ htab' _ => ?_
      obtain ⟨o1, vs, f1, tf, fl, tg, inF, tx, tt, op, _, _, _, _, _, _, _, _, _, htr, _⟩ := hco'
      exact cont _ h' tk _ hx (Nat.le_trans hge (Nat.le_of_lt hlt)) htab'.2 ⟨_, rfl⟩ htr
    | some cv =>
      refine wpAny_genexprCode_hit hcode (cd.code hP2 ht) hf ?_
      exact cont cv h2 s1.toks ps (Heap.ExtBut.refl _ _) (Nat.le_refl _) hP2 ⟨#[], by simp⟩ ht
/-- the first place whose entry the test lets pass, or the default -/
def FirstIx (pb : Int → Bool) (l : List Int) (d r : Int) : Prop :=
  ((∀ (j : Nat) (z : Int), l[j]? = some z → pb z = false) ∧ r = d) ∨ ∃ (i : Nat) (z : Int), l[i]? = some z ∧ pb z = true ∧ (∀ (j : Nat) (y : Int), j < i → l[j]? = some y → pb y = false) ∧ r = (i : Int)
theorem passing_nil {pb : Int → Bool} {l : List Int} (h : (passing (pzL pb l) l.length 0).length = 0) : ∀ (j : Nat) (z : Int), l[j]? = some z → pb z = false := fun j z hj => by
  have e : passing (pzL pb l) l.length 0 = [] := List.eq_nil_of_length_eq_zero h
  have hlt : j < l.length := (List.getElem?_eq_some_iff.mp hj).1
  cases hb : pb z with
  | false => rfl
  | true =>
    have hm : j ∈ passing (pzL pb l) l.length 0 := by
      unfold passing
      rw [List.drop_zero]
      exact List.mem_filter.mpr ⟨List.mem_range.mpr hlt, by rw [pzL_some hj]; exact hb⟩
    rw [e] at hm
    cases hm
theorem passing_first {pb : Int → Bool} {l : List Int} {i : Nat} (h : (passing (pzL pb l) l.length 0)[0]? = some i) : ∃ z, l[i]? = some z ∧ pb z = true ∧ ∀ (j : Nat) (y : Int), j < i → l[j]? = some y → pb y = false := by
  unfold passing at h
  rw [List.drop_zero] at h
  have h2 : ((List.range l.length).filter (pzL pb l)).head? = some i := by rw [List.head?_eq_getElem?]; exact h
  rw [List.head?_filter] at h2
  have h3 := List.find?_eq_some_iff_getElem.mp h2
  obtain ⟨hp, k, hk, ek, hn⟩ := h3
  rw [List.getElem_range] at ek
  subst ek
  rw [List.length_range] at hk
  refine ⟨l[k], List.getElem?_eq_getElem hk, ?_, fun j y hj hy => ?_⟩
  · rw [pzL_some (List.getElem?_eq_getElem hk)] at hp
    exact hp
  · have := hn j hj
    rw [List.getElem_range, pzL_some hy] at this
    simpa using this
/-- next((i for i, x in enumerate(e) if test of x), d) -/
def tNextE (K : PySem.W.Frag) (P : Addr) (pb : Int → Bool) (d : Int) (ta : TA) : TE := fun σ H Q => ta σ H fun vs H1 => ∃ (t : Addr) (l : List Int), vs = [.ref t] ∧ SqT K H1 t (l.map V.int) ∧ TabG H1 P ∧ ∀ r H2, FirstIx pb l d r → Tabbed P H1 H2 → Q (.int r) H2
theorem pe_nextE {c P : Addr} {e ct : Expr} {xa xb : Str} {pa pb' pt pn cpos gpos p pos dp : Pos} {kt jd : Nat} {scope : Scope} {pb : Int → Bool} {d : Int} {ta : TA} {k : Nat} {p1 : Pos}
    (hr : Room k X.A) (hgn : Gl X "next") (hmn : X.mg "next" = none) (TB : TabB X.base X.mg c P) (hcode : X.env.code = .ref c) (S : GenS2 X.env scope xa xb) (hg : Gl X "enumerate") (hm : X.mg "enumerate" = none) (ha : PA X [e] ta)
    (htest : TestI X.prog X.w scope xb ct pb) (hda : (xa == ("__debug__" : Str)) = false := by decide) (hst : starEach [e] X.env = [(false, eval e X.env)] := by rfl)
    (hs : ∀ v, genFold (.Call (.Name "enumerate" pn) [e] [] cpos) X.env v = pure v := by intro _; rfl)
    (he : starEach [.GeneratorExp (.Name xa p1) [⟨.Tuple [.Name xa pa, .Name xb pb'] kt pt, .Call (.Name "enumerate" pn) [e] [] cpos, [ct], 0⟩] scope gpos, .Constant (.int d) jd dp] X.env
      = (false, eval (.GeneratorExp (.Name xa p1) [⟨.Tuple [.Name xa pa, .Name xb pb'] kt pt, .Call (.Name "enumerate" pn) [e] [] cpos, [ct], 0⟩] scope gpos) X.env) :: starEach [.Constant (.int d) jd dp] X.env := by rfl)
    (he2 : starEach [.Constant (.int d) jd dp] X.env = [(false, eval (.Constant (.int d) jd dp) X.env)] := by rfl) :
    PE X (.Call (.Name "next" p) [.GeneratorExp (.Name xa p1) [⟨.Tuple [.Name xa pa, .Name xb pb'] kt pt, .Call (.Name "enumerate" pn) [e] [] cpos, [ct], 0⟩] scope gpos, .Constant (.int d) jd dp] [] pos) (tNextE X.K P pb d ta) := by
  refine ⟨fun pins s σ H Q I h => ?_⟩
  refine wpAny_Call_Name_kw (ld_blt I hgn hmn boot_next ?_)
  refine PyProof.Rows.callWith_builtin1 ?_ he (by rw [he2]; rfl)
  rw [he, he2]
  show wpAny _ _ (spliced ((false, eval (.GeneratorExp (.Name xa p1) [⟨.Tuple [.Name xa pa, .Name xb pb'] kt pt, .Call (.Name "enumerate" pn) [e] [] cpos, [ct], 0⟩] scope gpos) X.env) :: (false, eval (.Constant (.int d) jd dp) X.env) :: [])) _ _ s
  refine Calls.spliced_cons (gen_enum (R := fun t l H1 => ∀ r H2, FirstIx pb l d r → Tabbed P H1 H2 → Q (.int r) H2) hr TB hcode S hg hm ha hst htest hda hs I h fun t l H1 g s5 hR hG => ?_)
  refine Calls.spliced_cons (wpAny_Constant_int (Calls.spliced_nil ?_))
  obtain ⟨fp, wr, G, St, W, hst5, hT, hI⟩ := hG
  have back : ∀ {s'}, Moved wr G { s5 with toks := s5.toks + 1 } s' → Moved wr G s5 s' := fun m => ⟨m.heap, m.gens, m.drawn, m.os, Nat.le_trans (Nat.le_succ _) m.toks⟩
  refine call_next_walkS W hT (W.frame 0 s5 s5.heap (s5.toks + 1) hst5 (Nat.le_succ _) fun _ _ _ z => z) (fun v s' hn hv hmv => ?_) (fun s' hn hmv => ?_)
  · obtain ⟨H2, hTb, J⟩ := hI s' (back hmv)
    obtain ⟨i, hi, u, rfl⟩ := hv
    obtain ⟨z, hz1, hz2, hz3⟩ := passing_first hi
    exact ⟨.int i, H2, J, ⟨u, rfl⟩, hR i H2 (.inr ⟨i, z, hz1, hz2, hz3, rfl⟩) hTb⟩
  · obtain ⟨H2, hTb, J⟩ := hI s' (back hmv)
    exact ⟨.int d, H2, J, ⟨_, rfl⟩, hR d H2 (.inl ⟨passing_nil hn, rfl⟩) hTb⟩
theorem gen_name {c P : Addr} {e ct : Expr} {x : Str} {px gpos : Pos} {scope : Scope} {pb : Int → Bool} {te : TE} {k : Nat} {p1 : Pos} {Q' : Value → Shared → Prop} {R : Addr → List Int → Hp → Prop}
    (hr : Room k X.A) (TB : TabB X.base X.mg c P) (hcode : X.env.code = .ref c) (S : GenS X.env scope x) (he : PE X e te)
    (htest : TestI X.prog X.w scope x ct pb) (hda : (x == ("__debug__" : Str)) = false)
    (hs : ∀ v, genFold e X.env v = pure v) (I : Inv X pins σ H s) (h : te σ H fun v H1 => ∃ (t : Addr) (l : List Int), v = .ref t ∧ SqT X.K H1 t (l.map V.int) ∧ TabG H1 P ∧ R t l H1)
    (hQ : ∀ t l H1 g s5, R t l H1 → ReadyN X pins σ H1 P (passing (pzL pb l) l.length 0) (fun i y => ∃ z u, l[i]? = some z ∧ y = .int z u) g s5 → Q' (.ref g) s5) :
    wpAny (model X.prog X.w) X.A (eval (.GeneratorExp (.Name x p1) [⟨.Name x px, e, [ct], 0⟩] scope gpos) X.env) Q' X.xe s := by
  refine wpAny_GeneratorExp_walksQ hr.hd S.co (closure_ok S.free) S.cell S.dot S.loc S.kind (by have := hr.dp; omega) ?_ hs
  refine thn (he.run pins s σ H _ I h) fun us s1 hv => ?_
  obtain ⟨vs, H1, I1, r1, t, l, rfl, hq, ⟨ps, hP, ht⟩, q1⟩ := hv
  obtain rfl : us = Value.ref t := r1
  · skip
    obtain ⟨its, rv, p', hz⟩ := I1.tuple hq
    have pT : s1.heap.IsTuple t its.toArray := p'
    have hlt : t < s1.heap.objs.size := by obtain ⟨_, ho, _⟩ := p'; exact Heap.lt_size ho
    refine wpAny_pyIter_tuple pT ?_
    have hk2 : ∀ b o, s1.heap.get? b = some o → (s1.heap.push { cls := .type "tuple_iterator", data := .fields #[.ref t, .int 0 0] }).get? b = some o := fun b o z => Heap.get?_push_of_some _ z
    have hit : (s1.heap.push { cls := .type "tuple_iterator", data := .fields #[.ref t, .int 0 0] }).IsTupleIter s1.heap.objs.size t 0 := ⟨_, Heap.get?_push_size _ rfl, rfl, rfl⟩
    have hsz2 : (s1.heap.push { cls := .type "tuple_iterator", data := .fields #[.ref t, .int 0 0] }).objs.size = s1.heap.objs.size + 1 := Heap.size_push ..
    generalize s1.heap.push { cls := .type "tuple_iterator", data := .fields #[.ref t, .int 0 0] } = h2 at hk2 hit hsz2 ⊢
    have hPs : s1.heap.get? P = some { cls := .none, data := .fields ps } := I1.hok P _ hP
    have hPlt : P < s1.heap.objs.size := Heap.lt_size hPs
    have hP2 : h2.get? P = some { cls := .none, data := .fields ps } := hk2 _ _ hPs
    have cd : PySem.W.CodeHd h2 c P := TB.code.keeps fun b u e => hk2 _ _ (I1.bk b u e)
    have lim2 : h2.NoLimit := I1.nolimit.keeps hk2
    have hll := rv.length
    rw [List.length_map] at hll
    have tP : t ≠ P := fun z => by
      obtain ⟨o, ho, _, n, hd⟩ := pT
      rw [z, hPs] at ho
      cases ho
      cases hd
    have hzn : its.toArray.size = l.length := by rw [List.size_toArray]; omega
    have WT : ∀ A' : Around, A'.handled = none → Walks X.prog X.w A' s1.heap.objs.size _ _ _ _ _ := fun A' hA => Walks.tuple (prog := X.prog) (w := X.w) (A := A') hA s1.heap.objs.size t (Nat.ne_of_lt hlt) its.toArray
    have cont : ∀ (code : Value) (h3 : Heap) (tk : Nat) (ps' : Array Value), Heap.ExtBut P h2 h3 → h2.objs.size ≤ h3.objs.size → h3.get? P = some { cls := .none, data := .fields ps' } → (∃ more, ps' = ps ++ more) → TriplesOk ps'.toList →
        wpAny (model X.prog X.w) X.A (builtinsFor X.env.globals X.env.builtins) (fun bi s₄ =>
          ∃ Ia fp wr n₀ Pf St₀ pz F, Value.ref s1.heap.objs.size = .ref Ia ∧ (∀ A' : Around, A'.handled = none → Walks X.prog X.w A' Ia fp wr n₀ Pf St₀) ∧ St₀ 0 s₄.heap ∧ (∀ b ∈ fp, b < s₄.heap.objs.size) ∧ s₄.heap.NoLimit ∧ cStatics ∉ wr ∧
            (∀ href : Heap, (∀ b o, s₄.heap.get? b = some o → href.get? b = some o) →
              QuietGen X.prog X.w (genEnv scope (cloFrom X.env.cells scope.names []) s₄.heap.objs.size code bi X.env) x [ct] (.Name x p1) (List.range s₄.heap.objs.size) wr Pf pz F href) ∧
            (∀ a h₅ tk gs, gs.bare = true → s₄.heap.objs.size < a → h₅.objs.size = a + 1 → (∀ b o, s₄.heap.get? b = some o → h₅.get? b = some o) →
              WalksS X.prog X.w X.A.in4 a (a :: s₄.heap.objs.size :: List.range s₄.heap.objs.size) (s₄.heap.objs.size :: wr) (GenOnlyQ s₄.gens.size) (passing pz n₀ 0).length
                (fun j y => ∃ i, (passing pz n₀ 0)[j]? = some i ∧ F i y) (GenAt X.prog X.w X.A.in4 a s₄.gens.size s₄.heap.objs.size (List.range s₄.heap.objs.size) wr pz n₀ F) →
              GenAt X.prog X.w X.A.in4 a s₄.gens.size s₄.heap.objs.size (List.range s₄.heap.objs.size) wr pz n₀ F 0 { s₄ with gens := s₄.gens.push gs, toks := tk, heap := h₅ } →
              Q' (.ref a) { s₄ with gens := s₄.gens.push gs, toks := tk, heap := h₅ })) X.xe { s1 with heap := h3, toks := tk } := by
      intro code h3 tk ps' hx hsz hP3 hmore ht3
      obtain ⟨bm, ob, e1, e2, e3, e4, e5, e6, e7, e8⟩ := TB.bm
      have hcP : cStatics ≠ P := fun e => by
        obtain ⟨_, hns, _⟩ := I1.nolimit
        obtain ⟨o', es, ep, ho, hd, _⟩ := hns
        rw [e, hPs] at ho
        cases ho
        cases hd
      have hcl : cStatics < s1.heap.objs.size := let ⟨_, hns, _⟩ := I1.nolimit; hns.lt
      have keep3 : ∀ b u, b ≠ P → s1.heap.get? b = some u → h3.get? b = some u := fun b u hb e => hx b u hb (hk2 _ _ e)
      have iP : s1.heap.objs.size ≠ P := fun z => Nat.lt_irrefl _ (z ▸ hPlt)
      have off : ∀ b, b < s1.heap.objs.size → b ∉ [s1.heap.objs.size] := fun b hb hm => by
        have hm' : b = s1.heap.objs.size := by simpa using hm
        exact Nat.ne_of_lt hb hm'
      refine wpAny_builtinsFor (m := X.mg) (by rw [I1.ok.glob]; exact (((I1.mod.glob.keeps I1.bk).keeps hk2).extBut hx TB.gP)) e1 e2 (keep3 _ _ e4 (I1.bk _ _ e5)) e6 e7 e8 ?_
      refine ⟨s1.heap.objs.size, _, _, _, _, _, pzL pb l, (fun i y => ∃ z u, l[i]? = some z ∧ y = .int z u), rfl, WT, ⟨hit.at fun o q => hx _ o iP q, pT.at fun o q => keep3 _ o tP q⟩, ?_, lim2.extBut hx hcP, off _ hcl, ?_, ?_⟩
      · intro b hb
        have hb' : b = s1.heap.objs.size ∨ b = t := by simpa using hb
        show b < h3.objs.size
        rcases hb' with z | z
        · rw [z]
          show s1.heap.objs.size < h3.objs.size
          omega
        · rw [z]
          exact Nat.lt_of_lt_of_le hlt (show s1.heap.objs.size ≤ h3.objs.size by omega)
      · intro href hhref
        refine ⟨fun A' E' i v s₂ m₂ hA hPv hn hm hk => ?_, fun A' E' i v s₂ m₂ hA hPv hp hn hm hk => ?_⟩
        · have hxi' : its[i]? = some v := by simpa using hPv
          obtain ⟨z, t2, hz1, rfl⟩ := int_item rv hxi'
          refine one_if (wpAny_mono (htest _ A' E' z t2 s₂ m₂ rfl hn hm) (fun ok s3 q => ⟨?_, q.2⟩) fun _ _ e => e)
          rw [pzL_some hz1]
          exact q.1
        · have hxi' : its[i]? = some v := by simpa using hPv
          obtain ⟨z, t2, hz1, rfl⟩ := int_item rv hxi'
          exact wpAny_mono (elt_name (scope := scope) rfl S.kind S.loc hn hm hda) (fun y s3 q => ⟨⟨z, t2, hz1, q.1⟩, q.2⟩) fun _ _ e => e
      · intro g h5 tk5 gs hgb hag hsz5 hk5 W5 hat
        rw [hzn] at W5
        refine hQ t l H1 g _ q1 ⟨_, _, _, _, W5.in4_1, ?_, hat.1.typeIs, fun s' hm => ?_⟩
        · rw [hzn] at hat
          exact hat
        · obtain ⟨more, em⟩ := hmore
          have nwr : ∀ b u, s1.heap.get? b = some u → b ∉ h3.objs.size :: [s1.heap.objs.size] := fun b u e hb => by
            have hl := Heap.lt_size e
            rcases List.mem_cons.mp hb with z | z
            · rw [z] at hl
              have h9 : (h3.objs.size : Nat) < s1.heap.objs.size := hl
              omega
            · exact off b hl z
          have J := inv_tab (more := more) (h' := s'.heap) (g' := s'.gens) (d' := s'.drawn) (t' := s'.toks) I1 hP (fun b u hb e => hm.heap b u (nwr b u e) (hk5 b u (keep3 b u hb e)))
            (by rw [← em]; exact hm.heap P _ (nwr P _ hPs) (hk5 P _ hP3)) (AllBare.movedS (I1.bare.push hgb) hm)
          rw [sh_eta s1 s' hm.os] at J
          refine ⟨upd H1 P (.tbl (ps ++ more)), ⟨⟨ps ++ more, upd_same, by rw [← em]; exact ht3⟩, fun b hb => upd_ne hb⟩, J⟩
    refine ⟨lim2, ?_⟩
    cases hf : codeAmong gpos ps.toList with
    | none =>
      refine wpAny_genexprCodeX hcode (cd.code hP2 ht) (cd.tab hP2) hf fun c' h' tk hx hge hlt hco' _ htab' _ => ?_
      obtain ⟨o1, vs, f1, tf, fl, tg, inF, tx, tt, op, _, _, _, _, _, _, _, _, _, htr, _⟩ := hco'
      exact cont _ h' tk _ hx (Nat.le_trans hge (Nat.le_of_lt hlt)) htab'.2 ⟨_, rfl⟩ htr
    | some cv =>
      refine wpAny_genexprCode_hit hcode (cd.code hP2 ht) hf ?_
      exact cont cv h2 s1.toks ps (Heap.ExtBut.refl _ _) (Nat.le_refl _) hP2 ⟨#[], by simp⟩ ht
/-- the first entry that the test lets pass, or the default -/
def FirstOf (pb : Int → Bool) (l : List Int) (d r : Int) : Prop :=
  ((∀ (j : Nat) (z : Int), l[j]? = some z → pb z = false) ∧ r = d) ∨ ∃ i : Nat, l[i]? = some r ∧ pb r = true ∧ ∀ (j : Nat) (y : Int), j < i → l[j]? = some y → pb y = false
end
end GenNx

set_option Elab.async false
set_option linter.all false
set_option maxRecDepth 100000
set_option maxHeartbeats 2000000
/-! next(x for x in xs if .., default), xs a list of ints -/
namespace GenNl
open PySem PySem.Spec PyProof.Rows L2 GxR EnumT GenNx
section
variable {X : Cx} {pins : List (Addr × Obj)} {σ : L2.St} {H : Hp} {s : Shared}
theorem gen_name {c P : Addr} {e ct : Expr} {x : Str} {px gpos : Pos} {scope : Scope} {pb : Int → Bool} {te : TE} {k : Nat} {p1 : Pos} {Q' : Value → Shared → Prop} {R : Addr → List Int → Hp → Prop}
    (hr : Room k X.A) (TB : TabB X.base X.mg c P) (hcode : X.env.code = .ref c) (S : GenS X.env scope x) (he : PE X e te)
    (htest : TestI X.prog X.w scope x ct pb) (hda : (x == ("__debug__" : Str)) = false)
    (hs : ∀ v, genFold e X.env v = pure v) (I : Inv X pins σ H s) (h : te σ H fun v H1 => ∃ (t : Addr) (l : List Int), v = .ref t ∧ SqL X.K H1 t (l.map V.int) ∧ TabG H1 P ∧ R t l H1)
    (hQ : ∀ t l H1 g s5, R t l H1 → ReadyN X pins σ H1 P (passing (pzL pb l) l.length 0) (fun i y => ∃ z u, l[i]? = some z ∧ y = .int z u) g s5 → Q' (.ref g) s5) :
    wpAny (model X.prog X.w) X.A (eval (.GeneratorExp (.Name x p1) [⟨.Name x px, e, [ct], 0⟩] scope gpos) X.env) Q' X.xe s := by
  refine wpAny_GeneratorExp_walksQ hr.hd S.co (closure_ok S.free) S.cell S.dot S.loc S.kind (by have := hr.dp; omega) ?_ hs
  refine thn (he.run pins s σ H _ I h) fun us s1 hv => ?_
  obtain ⟨vs, H1, I1, r1, t, l, rfl, hq, ⟨ps, hP, ht⟩, q1⟩ := hv
  obtain rfl : us = Value.ref t := r1
  · skip
    obtain ⟨its, rv, p0, hz⟩ := I1.list hq
    have p' := p0.isList
    have pT : s1.heap.IsList t its.toArray := p'
    have hlt : t < s1.heap.objs.size := by obtain ⟨_, ho, _⟩ := p'; exact Heap.lt_size ho
    refine wpAny_pyIter_list pT ?_
    have hk2 : ∀ b o, s1.heap.get? b = some o → (s1.heap.push { cls := .type "list_iterator", data := .fields #[.ref t, .int 0 0] }).get? b = some o := fun b o z => Heap.get?_push_of_some _ z
    have hit : (s1.heap.push { cls := .type "list_iterator", data := .fields #[.ref t, .int 0 0] }).IsListIter s1.heap.objs.size t 0 := ⟨_, Heap.get?_push_size _ rfl, rfl, rfl⟩
    have hsz2 : (s1.heap.push { cls := .type "list_iterator", data := .fields #[.ref t, .int 0 0] }).objs.size = s1.heap.objs.size + 1 := Heap.size_push ..
    generalize s1.heap.push { cls := .type "list_iterator", data := .fields #[.ref t, .int 0 0] } = h2 at hk2 hit hsz2 ⊢
    have hPs : s1.heap.get? P = some { cls := .none, data := .fields ps } := I1.hok P _ hP
    have hPlt : P < s1.heap.objs.size := Heap.lt_size hPs
    have hP2 : h2.get? P = some { cls := .none, data := .fields ps } := hk2 _ _ hPs
    have cd : PySem.W.CodeHd h2 c P := TB.code.keeps fun b u e => hk2 _ _ (I1.bk b u e)
    have lim2 : h2.NoLimit := I1.nolimit.keeps hk2
    have hll := rv.length
    rw [List.length_map] at hll
    have tP : t ≠ P := fun z => by
      obtain ⟨o, ho, _, n, hd⟩ := pT
      rw [z, hPs] at ho
      cases ho
      cases hd
    have hzn : its.toArray.size = l.length := by rw [List.size_toArray]; omega
    have WT : ∀ A' : Around, A'.handled = none → Walks X.prog X.w A' s1.heap.objs.size _ _ _ _ _ := fun A' hA => Walks.list (prog := X.prog) (w := X.w) (A := A') hA s1.heap.objs.size t (Nat.ne_of_lt hlt) its.toArray
    have cont : ∀ (code : Value) (h3 : Heap) (tk : Nat) (ps' : Array Value), Heap.ExtBut P h2 h3 → h2.objs.size ≤ h3.objs.size → h3.get? P = some { cls := .none, data := .fields ps' } → (∃ more, ps' = ps ++ more) → TriplesOk ps'.toList →
        wpAny (model X.prog X.w) X.A (builtinsFor X.env.globals X.env.builtins) (fun bi s₄ =>
          ∃ Ia fp wr n₀ Pf St₀ pz F, Value.ref s1.heap.objs.size = .ref Ia ∧ (∀ A' : Around, A'.handled = none → Walks X.prog X.w A' Ia fp wr n₀ Pf St₀) ∧ St₀ 0 s₄.heap ∧ (∀ b ∈ fp, b < s₄.heap.objs.size) ∧ s₄.heap.NoLimit ∧ cStatics ∉ wr ∧
            (∀ href : Heap, (∀ b o, s₄.heap.get? b = some o → href.get? b = some o) →
              QuietGen X.prog X.w (genEnv scope (cloFrom X.env.cells scope.names []) s₄.heap.objs.size code bi X.env) x [ct] (.Name x p1) (List.range s₄.heap.objs.size) wr Pf pz F href) ∧
            (∀ a h₅ tk gs, gs.bare = true → s₄.heap.objs.size < a → h₅.objs.size = a + 1 → (∀ b o, s₄.heap.get? b = some o → h₅.get? b = some o) →
              WalksS X.prog X.w X.A.in4 a (a :: s₄.heap.objs.size :: List.range s₄.heap.objs.size) (s₄.heap.objs.size :: wr) (GenOnlyQ s₄.gens.size) (passing pz n₀ 0).length
                (fun j y => ∃ i, (passing pz n₀ 0)[j]? = some i ∧ F i y) (GenAt X.prog X.w X.A.in4 a s₄.gens.size s₄.heap.objs.size (List.range s₄.heap.objs.size) wr pz n₀ F) →
              GenAt X.prog X.w X.A.in4 a s₄.gens.size s₄.heap.objs.size (List.range s₄.heap.objs.size) wr pz n₀ F 0 { s₄ with gens := s₄.gens.push gs, toks := tk, heap := h₅ } →
              Q' (.ref a) { s₄ with gens := s₄.gens.push gs, toks := tk, heap := h₅ })) X.xe { s1 with heap := h3, toks := tk } := by
      intro code h3 tk ps' hx hsz hP3 hmore ht3
      obtain ⟨bm, ob, e1, e2, e3, e4, e5, e6, e7, e8⟩ := TB.bm
      have hcP : cStatics ≠ P := fun e => by
        obtain ⟨_, hns, _⟩ := I1.nolimit
        obtain ⟨o', es, ep, ho, hd, _⟩ := hns
        rw [e, hPs] at ho
        cases ho
        cases hd
      have hcl : cStatics < s1.heap.objs.size := let ⟨_, hns, _⟩ := I1.nolimit; hns.lt
      have keep3 : ∀ b u, b ≠ P → s1.heap.get? b = some u → h3.get? b = some u := fun b u hb e => hx b u hb (hk2 _ _ e)
      have iP : s1.heap.objs.size ≠ P := fun z => Nat.lt_irrefl _ (z ▸ hPlt)
      have off : ∀ b, b < s1.heap.objs.size → b ∉ [s1.heap.objs.size] := fun b hb hm => by
        have hm' : b = s1.heap.objs.size := by simpa using hm
        exact Nat.ne_of_lt hb hm'
      refine wpAny_builtinsFor (m := X.mg) (by rw [I1.ok.glob]; exact (((I1.mod.glob.keeps I1.bk).keeps hk2).extBut hx TB.gP)) e1 e2 (keep3 _ _ e4 (I1.bk _ _ e5)) e6 e7 e8 ?_
      refine ⟨s1.heap.objs.size, _, _, _, _, _, pzL pb l, (fun i y => ∃ z u, l[i]? = some z ∧ y = .int z u), rfl, WT, ⟨hit.at fun o q => hx _ o iP q, pT.at fun o q => keep3 _ o tP q⟩, ?_, lim2.extBut hx hcP, off _ hcl, ?_, ?_⟩
      · intro b hb
        have hb' : b = s1.heap.objs.size ∨ b = t := by simpa using hb
        show b < h3.objs.size
        rcases hb' with z | z
        · rw [z]
          show s1.heap.objs.size < h3.objs.size
          omega
        · rw [z]
          exact Nat.lt_of_lt_of_le hlt (show s1.heap.objs.size ≤ h3.objs.size by omega)
      · intro href hhref
        refine ⟨fun A' E' i v s₂ m₂ hA hPv hn hm hk => ?_, fun A' E' i v s₂ m₂ hA hPv hp hn hm hk => ?_⟩
        · have hxi' : its[i]? = some v := by simpa using hPv
          obtain ⟨z, t2, hz1, rfl⟩ := int_item rv hxi'
          refine one_if (wpAny_mono (htest _ A' E' z t2 s₂ m₂ rfl hn hm) (fun ok s3 q => ⟨?_, q.2⟩) fun _ _ e => e)
          rw [pzL_some hz1]
          exact q.1
        · have hxi' : its[i]? = some v := by simpa using hPv
          obtain ⟨z, t2, hz1, rfl⟩ := int_item rv hxi'
          exact wpAny_mono (elt_name (scope := scope) rfl S.kind S.loc hn hm hda) (fun y s3 q => ⟨⟨z, t2, hz1, q.1⟩, q.2⟩) fun _ _ e => e
      · intro g h5 tk5 gs hgb hag hsz5 hk5 W5 hat
        rw [hzn] at W5
        refine hQ t l H1 g _ q1 ⟨_, _, _, _, W5.in4_1, ?_, hat.1.typeIs, fun s' hm => ?_⟩
        · rw [hzn] at hat
          exact hat
        · obtain ⟨more, em⟩ := hmore
          have nwr : ∀ b u, s1.heap.get? b = some u → b ∉ h3.objs.size :: [s1.heap.objs.size] := fun b u e hb => by
            have hl := Heap.lt_size e
            rcases List.mem_cons.mp hb with z | z
            · rw [z] at hl
              have h9 : (h3.objs.size : Nat) < s1.heap.objs.size := hl
              omega
            · exact off b hl z
          have J := inv_tab (more := more) (h' := s'.heap) (g' := s'.gens) (d' := s'.drawn) (t' := s'.toks) I1 hP (fun b u hb e => hm.heap b u (nwr b u e) (hk5 b u (keep3 b u hb e)))
            (by rw [← em]; exact hm.heap P _ (nwr P _ hPs) (hk5 P _ hP3)) (AllBare.movedS (I1.bare.push hgb) hm)
          rw [sh_eta s1 s' hm.os] at J
          refine ⟨upd H1 P (.tbl (ps ++ more)), ⟨⟨ps ++ more, upd_same, by rw [← em]; exact ht3⟩, fun b hb => upd_ne hb⟩, J⟩
    refine ⟨lim2, ?_⟩
    cases hf : codeAmong gpos ps.toList with
    | none =>
      refine wpAny_genexprCodeX hcode (cd.code hP2 ht) (cd.tab hP2) hf fun c' h' tk hx hge hlt hco' _ htab' _ => ?_
      obtain ⟨o1, vs, f1, tf, fl, tg, inF, tx, tt, op, _, _, _, _, _, _, _, _, _, htr, _⟩ := hco'
      exact cont _ h' tk _ hx (Nat.le_trans hge (Nat.le_of_lt hlt)) htab'.2 ⟨_, rfl⟩ htr
    | some cv =>
      refine wpAny_genexprCode_hit hcode (cd.code hP2 ht) hf ?_
      exact cont cv h2 s1.toks ps (Heap.ExtBut.refl _ _) (Nat.le_refl _) hP2 ⟨#[], by simp⟩ ht
/-- next((x for x in e if test of x), d) -/
def tNextL (K : PySem.W.Frag) (P : Addr) (pb : Int → Bool) (d : Int) (te : TE) : TE := fun σ H Q => te σ H fun v H1 => ∃ (t : Addr) (l : List Int), v = .ref t ∧ SqL K H1 t (l.map V.int) ∧ TabG H1 P ∧ ∀ r H2, FirstOf pb l d r → Tabbed P H1 H2 → Q (.int r) H2
theorem pe_nextL {c P : Addr} {e ct : Expr} {x : Str} {px gpos p pos dp : Pos} {jd : Nat} {scope : Scope} {pb : Int → Bool} {d : Int} {te : TE} {k : Nat} {p1 : Pos}
    (hr : Room k X.A) (hgn : Gl X "next") (hmn : X.mg "next" = none) (TB : TabB X.base X.mg c P) (hcode : X.env.code = .ref c) (S : GenS X.env scope x) (he0 : PE X e te)
    (htest : TestI X.prog X.w scope x ct pb) (hda : (x == ("__debug__" : Str)) = false := by decide)
    (hs : ∀ v, genFold e X.env v = pure v := by intro _; rfl)
    (he : starEach [.GeneratorExp (.Name x p1) [⟨.Name x px, e, [ct], 0⟩] scope gpos, .Constant (.int d) jd dp] X.env
      = (false, eval (.GeneratorExp (.Name x p1) [⟨.Name x px, e, [ct], 0⟩] scope gpos) X.env) :: starEach [.Constant (.int d) jd dp] X.env := by rfl)
    (he2 : starEach [.Constant (.int d) jd dp] X.env = [(false, eval (.Constant (.int d) jd dp) X.env)] := by rfl) :
    PE X (.Call (.Name "next" p) [.GeneratorExp (.Name x p1) [⟨.Name x px, e, [ct], 0⟩] scope gpos, .Constant (.int d) jd dp] [] pos) (tNextL X.K P pb d te) := by
  refine ⟨fun pins s σ H Q I h => ?_⟩
  refine wpAny_Call_Name_kw (ld_blt I hgn hmn boot_next ?_)
  refine PyProof.Rows.callWith_builtin1 ?_ he (by rw [he2]; rfl)
  rw [he, he2]
  show wpAny _ _ (spliced ((false, eval (.GeneratorExp (.Name x p1) [⟨.Name x px, e, [ct], 0⟩] scope gpos) X.env) :: (false, eval (.Constant (.int d) jd dp) X.env) :: [])) _ _ s
  refine Calls.spliced_cons (gen_name (R := fun t l H1 => ∀ r H2, FirstOf pb l d r → Tabbed P H1 H2 → Q (.int r) H2) hr TB hcode S he0 htest hda hs I h fun t l H1 g s5 hR hG => ?_)
  refine Calls.spliced_cons (wpAny_Constant_int (Calls.spliced_nil ?_))
  obtain ⟨fp, wr, G, St, W, hst5, hT, hI⟩ := hG
  have back : ∀ {s'}, Moved wr G { s5 with toks := s5.toks + 1 } s' → Moved wr G s5 s' := fun m => ⟨m.heap, m.gens, m.drawn, m.os, Nat.le_trans (Nat.le_succ _) m.toks⟩
  refine call_next_walkS W hT (W.frame 0 s5 s5.heap (s5.toks + 1) hst5 (Nat.le_succ _) fun _ _ _ z => z) (fun v s' hn hv hmv => ?_) (fun s' hn hmv => ?_)
  · obtain ⟨H2, hTb, J⟩ := hI s' (back hmv)
    obtain ⟨i, hi, y, u, hy, rfl⟩ := hv
    obtain ⟨z, hz1, hz2, hz3⟩ := passing_first hi
    rw [hy] at hz1
    cases hz1
    exact ⟨.int y, H2, J, ⟨u, rfl⟩, hR y H2 (.inr ⟨i, hy, hz2, hz3⟩) hTb⟩
  · obtain ⟨H2, hTb, J⟩ := hI s' (back hmv)
    exact ⟨.int d, H2, J, ⟨_, rfl⟩, hR d H2 (.inl ⟨passing_nil hn, rfl⟩) hTb⟩
end
end GenNl

set_option Elab.async false
set_option linter.all false
set_option maxRecDepth 100000
set_option maxHeartbeats 2000000
/-! next(.. for .. in .. if .., default), the block in a context of its own: test and element may call -/
namespace GenCx
open PySem PySem.Spec PyProof.Rows L2 GxR EnumT GenNx
/-- the context of a generator expression's block, woken in A' -/
abbrev gcx (X : Cx) (A' : Around) (s : Shared) (H : Hp) (cenv : Env) (fp : List Addr) : Cx :=
  { X with A := A', s_0 := s, H_0 := H, env := cenv, outer := X.stack, stack := cenv :: X.stack, ex := fp, fn := fun _ => false, calm := true, pn := [], xe := fun _ _ => False }
section
variable {X : Cx} {pins : List (Addr × Obj)} {σ : L2.St} {H : Hp} {s : Shared}
theorem gen_start {A' : Around} {scope : Scope} {own : List (Str × Nat)} {fp : List Addr} {code : Value} {s' : Shared} {m0 : Str → Option Value} (I : Inv X pins σ H s) (ok : BlkOk X.N X.env.scope scope own) (hN : X.N.Nodup) (hcell : ∀ y ∈ scope.names, y.2 ≠ .cell)
    (hfp : ∀ b ∈ fp, FpOk X pins H b ∧ b < s.heap.objs.size) (hA : A'.handled = none) (hF : A'.frames = some (genEnv scope (cloFrom X.env.cells scope.names []) s.heap.objs.size code builtinsNs X.env :: X.stack))
    (kp : ∀ b o, s.heap.get? b = some o → s'.heap.get? b = some o) (hn : s'.heap.Ns s.heap.objs.size m0) (hos : s'.os = s.os) (hb : AllBare s'.gens) :
    Inv (gcx X A' s H (genEnv scope (cloFrom X.env.cells scope.names []) s.heap.objs.size code builtinsNs X.env) fp) [] (wipe σ (own.map (·.2))) H s' := by
  have hfree : ∀ y ∈ scope.names, y.2 = .free → ∃ c, X.env.cells.lookup y.1 = some c := fun y hy e => by
    rcases ok.free y hy e with k | k
    · exact I.ok.has _ (.inl k)
    · exact I.ok.has _ (.inr k)
  generalize hcenv : genEnv scope (cloFrom X.env.cells scope.names []) s.heap.objs.size code builtinsNs X.env = cenv at hF ⊢
  have hL : cenv.locals = s.heap.objs.size := by rw [← hcenv]; rfl
  have hcl : cenv.cells = cloFrom X.env.cells scope.names [] := by rw [← hcenv]; rfl
  have hsc : cenv.scope = scope := by rw [← hcenv]; rfl
  have hfr : cenv.frame = some cenv.locals := by rw [← hcenv]; rfl
  have mem : ∀ {y c}, cenv.cells.lookup y = some c → X.env.cells.lookup y = some c ∧ c < s.heap.objs.size := fun {y c} e => by
    rw [hcl] at e
    rcases cloFrom_mem (PySem.mem_of_lookup e) with hm | ⟨h1, rfl⟩
    · cases hm
    · obtain ⟨c, hc⟩ := hfree _ h1 rfl
      rw [hc]
      obtain ⟨w, z⟩ := I.cell _ _ hc
      exact ⟨rfl, z.lt⟩
  have look : ∀ {y}, scope.names.lookup y = some .free → ∃ c, cenv.cells.lookup y = some c ∧ X.env.cells.lookup y = some c := fun {y} hl => by
    have hy : (y, NameKind.free) ∈ scope.names := PySem.mem_of_lookup hl
    obtain ⟨c', e'⟩ := mem_lookup (cloFrom_has (cells := X.env.cells) (acc := []) hy)
    rw [← hcl] at e'
    exact ⟨c', e', (mem e').1⟩
  have okB : (gcx X A' s H cenv fp).Ok := by
    refine ⟨I.ok.mod, by show cenv.scope.kind = _; rw [hsc]; exact ok.kind, by show cenv.globals = _; rw [← hcenv]; exact I.ok.glob, by show cenv.builtins = _; rw [← hcenv]; rfl, by show s.heap.objs.size ≤ cenv.locals; rw [hL]; exact Nat.le_refl _,
      fun y z c e1 e2 => I.ok.inj y z c (mem e1).1 (mem e2).1, fun y hy => ?_, fun y c z e => absurd z (by simp), fun _ => hA, hF, .inr ⟨rfl, hfr⟩, fun b hb => ⟨?_, fun y c e z => (hfp b hb).1.2.2.2.2.1 y c (mem e).1 z⟩, I.bs, Nat.le_trans I.ok.bsz I.sz, fun b o e hb => ?_, fun b hb z => ?_, I.stack, I.stkFree⟩
    · have key : ∀ k, scope.names.lookup y = some k → (k = .cell ∨ k = .free) → ∃ c, cenv.cells.lookup y = some c := fun k e hk => by
        rcases hk with rfl | rfl
        · exact absurd rfl (hcell _ (PySem.mem_of_lookup e))
        · obtain ⟨c, h1, _⟩ := look e
          exact ⟨c, h1⟩
      have hy : cenv.scope.names.lookup y = some .cell ∨ cenv.scope.names.lookup y = some .free := hy
      rw [hsc] at hy
      rcases hy with hy | hy
      · exact key _ hy (.inl rfl)
      · exact key _ hy (.inr rfl)
    · show b ≠ cenv.locals
      rw [hL]; exact Nat.ne_of_lt (hfp b hb).2
    · rcases (hfp b hb).1.2.2.2.1 with z | z
      · exact I.ok.noex b o e z
      · exact absurd (Nat.lt_of_lt_of_le (Heap.lt_size e) (Nat.le_trans I.ok.bsz z)) (Nat.lt_irrefl _)
    · rcases List.mem_cons.mp (I.stkSub b z) with z | z
      · exact (hfp b hb).1.2.1 z
      · exact (hfp b hb).1.2.2.1 z
  refine ⟨okB, hos, hb, Un.kept kp, ⟨m0, ?_, fun i y av e1 e2 e3 => ?_⟩, fun y c e => ?_, ?_, fun y c e => I.freeC y c (mem e).1, fun p hp => ?_, I.hok.kept kp, by rw [wipe_length]; exact I.len⟩
  · show Heap.Ns _ cenv.locals _
    rw [hL]
    exact hn
  · obtain ⟨e2, hne⟩ := wipe_some e2
    have hfr : scope.names.lookup y = some .free := by
      have key : ∀ k, scope.names.lookup y = some k → k = .local ∨ k = .cell ∨ k = .free → scope.names.lookup y = some .free := fun k e hk => by
        have no : ¬ (k = .local ∨ k = .cell) := fun hh => by
          rcases ok.own _ (PySem.mem_of_lookup e) hh with e' | e'
          · obtain ⟨p, hp, hpy⟩ := List.mem_map.mp e'
            have e3 := ok.ix p hp
            have : p.1 = y := hpy
            rw [this] at e3
            exact hne (List.mem_map.mpr ⟨p, hp, nodup_ix hN e3 e1⟩)
          · exact e' (List.mem_of_getElem? e1)
        rcases hk with rfl | rfl | rfl
        · exact absurd (.inl rfl) no
        · exact absurd (.inr rfl) no
        · exact e
      have e3 : Vis cenv.scope y := e3
      rw [hsc] at e3
      rcases e3 with e3 | e3 | e3
      · exact key _ e3 (.inl rfl)
      · exact key _ e3 (.inr (.inl rfl))
      · exact key _ e3 (.inr (.inr rfl))
    obtain ⟨m, hn, hl⟩ := I.loc
    have hvis : Vis X.env.scope y := (ok.free _ (PySem.mem_of_lookup hfr) rfl).elim (fun k => .inr (.inl k)) (fun k => .inr (.inr k))
    obtain ⟨w, r, q⟩ := hl i y av e1 e2 hvis
    refine ⟨w, r, .inr ⟨.inr (by show cenv.scope.names.lookup y = _; rw [hsc]; exact hfr), ?_⟩⟩
    obtain ⟨c, h1, h2⟩ := look hfr
    rcases q with ⟨k, _⟩ | ⟨_, c', e', z⟩
    · have k : X.env.scope.names.lookup y = some .local := k
      rcases ok.free _ (PySem.mem_of_lookup hfr) rfl with k' | k' <;> rw [show X.env.scope.names.lookup y = _ from k'] at k <;> cases k
    · rw [h2] at e'; cases e'
      exact ⟨c, h1, z.keeps kp⟩
  · have e : cenv.cells.lookup y = some c := e
    obtain ⟨w, z⟩ := I.cell y c (mem e).1
    exact ⟨w, z.keeps kp⟩
  · show H cenv.locals = none
    rw [hL]; exact I.hok.fresh (Nat.le_refl _)
  · exact absurd (show p ∈ ([] : List (Addr × Obj)) ++ [] from hp) (by simp)
/-- the around of a generator expression's loop -/
theorem over_gen {A : Around} {elt : Expr} {gs : List Comprehension} {scope : Scope} {pos : Pos} {it acc : Value} {env : Env} : A.over (.compLoop (.GeneratorExp elt gs scope pos) 0 it acc env) [] = A.deeper env := by
  first
    | rfl
    | (obtain ⟨hd, d, fr, gs, u⟩ := A; simp [Around.over, Around.deeper, marksOver, frameCount, unitsOf, envsOf, guardsOf, pushEnvs, pushGuards, Code.envs, Code.env?, Code.isFrame, Code.guards, Code.isGuard, Code.weight, Code.frames, Code.isCreation, Code.isCaller, Code.cUnits])
theorem bare_set {s : Shared} {g : Nat} {x : GenState} (h : AllBare s.gens) (hx : x.bare = true) : AllBare (s.setGen g x).gens := fun y hy => by
  have hy : y ∈ s.gens.setIfInBounds g x := hy
  rcases Array.mem_or_eq_of_mem_setIfInBounds hy with z | z
  · exact h y z
  · rw [z]; exact hx
theorem room_gen {k : Nat} {A : Around} (r : Room (k + 1) A) (env : Env) : Room k (A.in1.in1.deeper env) :=
  ⟨r.hd, by have := r.dp; show A.depth + 1 + 3 * k + 5 < _; omega, by have := r.un; show A.units + 1 + 1 + 3 + 16 * k + 200 < _; omega⟩
/-- next(generator, default), asked once -/
theorem call_next_once {prog : Program} {w : World} {A : Around} {E : Value → Shared → Prop} {s : Shared} {I : Addr} {g : Nat} {gs : GenState} {d : Value} {P : Shared → Prop} {Y : Value → Shared → Prop} {Q : Value → Shared → Prop}
    (hh : A.handled = none) (hl : s.heap.NoLimit) (hroom : A.depth < recursionLimit) (hg : s.heap.IsGen I g) (hgs : s.gens[g]? = some gs)
    (hgo : gs.Goes (model prog w) A.in1.in1 (fun _ _ r s₁ => r = .ok .next ∧ P s₁) (fun _ _ v s₁ _ => Y v s₁) 1 (.send .none) (s.setGen g .running))
    (hY : ∀ v s₁ gs', gs'.bare = true → Y v s₁ → Q v (s₁.setGen g gs'))
    (hP : ∀ s₁, P s₁ → ∀ h', (∀ b o, s₁.heap.get? b = some o → h'.get? b = some o) → Q d { s₁.setGen g .finished with heap := h' }) :
    wpAny (model prog w) A (call (.builtin "next") [.ref I, d]) Q E s := by
  refine Calls.call_function_entry (by decide +kernel) (by decide +kernel) PySem.W.kdk_entry_next (PySem.W.kdk_args_next2 _ _) ?_
  unfold Builtin.«next»
  refine wpAny_bind (m := someArgs "next" 1 2 _) (wpAny_of_eq (a := [Value.ref I, d]) (by first | rfl | kernel_rfl!) ?_)
  dsimp only
  refine wpAny_bind (wpAny_specialOf (name := Str.ofString "__next__") hg.typeIs slot_gen_next.lookup ?_)
  refine wpAny_ite_split (fun hab => absurd hab (by decide)) (fun _ => ?_)
  refine wpAny_bind (wpAny_pyNext_genexpQ (A := A.in1) (P := fun _ _ s₁ => P s₁) (Y := fun _ _ v s₁ _ => Y v s₁) hh hl hroom hg hgs hgo (fun v s₁ gs' hb hv => ?_) fun s₁ hp h' hk => ?_)
  · exact wpAny_pure ⟨_, rfl, hY v s₁ gs' hb hv⟩
  · exact wpAny_pure ⟨_, rfl, hP s₁ hp h' hk⟩

/-- next(.. for .. in .. if .., d): the turns until one is let -/
def tNx (P : Addr) (wi : TI) (g : TG) (tt : TT) (te : TE) (vs : List Nat) (dv : V) : TE := fun σ H Q => wi σ H fun J H1 => TabG H1 P ∧ ∀ H2, Tabbed P H1 H2 → ∃ W : Nat → Nat → Hp → Prop, (∃ m, W 0 m H2) ∧ ∀ i n H5, W i n H5 →
  (J.stop i H5 ∧ Q dv H5) ∨ (J.go i H5 ∧ ∃ Nx : Hp → Prop, (∀ H', Nx H' → ∃ m', m' < n ∧ W (i + 1) m' H') ∧ ∀ x H7, J.yld i H5 x H7 → g x (wipe σ vs) H7 fun σ8 H8 => wipe σ8 vs = wipe σ vs ∧ tt σ8 H8 fun b H9 => if b = true then te σ8 H9 Q else Nx H9)

/-- the turns -/
theorem seg_turns {A : Around} {X' : Cx} {tg elt iter : Expr} {ifs : List Expr} {scope : Scope} {pos : Pos} {J : It} {it : Addr} {fp : List Addr} {tn : Nat → Heap → Prop} {g : TG} {tt : TT} {te : TE} {vs : List Nat} {dv : V} {Q : VK} {W : Nat → Nat → Hp → Prop} {σ' : L2.St}
    (hA : X'.A = A.deeper X'.env) (hco : X'.env.scope.isCoroutine = false) (hc : X'.calm = true) (hpn : X'.pn = []) (hex : X'.ex = fp) (hxe : X'.xe = fun _ _ => False) (T : Turn X'.prog X'.w X'.K tg J fp it tn)
    (pg : PG X' tg g) (pt : PTs X' ifs tt) (pe : PE X' elt te)
    (turn : ∀ i n H5, W i n H5 → (J.stop i H5 ∧ Q dv H5) ∨ (J.go i H5 ∧ ∃ Nx : Hp → Prop, (∀ H', Nx H' → ∃ m', m' < n ∧ W (i + 1) m' H') ∧ ∀ x H7, J.yld i H5 x H7 → g x (wipe σ' vs) H7 fun σ8 H8 => wipe σ8 vs = wipe σ' vs ∧ tt σ8 H8 fun b H9 => if b = true then te σ8 H9 Q else Nx H9)) :
    ∀ (n i : Nat) (s₀ s : Shared) (H5 : Hp), W i n H5 → Inv X' [] (wipe σ' vs) H5 s → tn i s.heap → (∀ b ∈ fp, H5 b = none) →
      Seg (model X'.prog X'.w) A (fun _ _ r s₁ => r = .ok .next ∧ ∃ H', Inv X' [] (wipe σ' vs) H' s₁ ∧ (∀ b ∈ fp, H' b = none) ∧ Q dv H') (fun _ _ v s₁ _ => ∃ pl σ8 x H', Inv X' pl σ8 H' s₁ ∧ RelV x v ∧ Q x H') 1 s₀
        (.compLoop (.GeneratorExp elt [⟨tg, iter, ifs, 0⟩] scope pos) 0 (.ref it) .none X'.env)
        ((model X'.prog X'.w).den (.compLoop (.GeneratorExp elt [⟨tg, iter, ifs, 0⟩] scope pos) 0 (.ref it) .none X'.env)) [] s := by
  have hov : A.over (.compLoop (.GeneratorExp elt [⟨tg, iter, ifs, 0⟩] scope pos) 0 (.ref it) .none X'.env) [] = X'.A := over_gen.trans hA.symm
  have noE : ∀ {α : Type} {t : Sem α} {Q1 Q2 : α → Shared → Prop} {E' : Value → Shared → Prop} {s' : Shared}, wpAny (model X'.prog X'.w) X'.A t Q1 X'.xe s' → (∀ a s, Q1 a s → Q2 a s) → wpAny (model X'.prog X'.w) (A.over (.compLoop (.GeneratorExp elt [⟨tg, iter, ifs, 0⟩] scope pos) 0 (.ref it) .none X'.env) []) t Q2 E' s' :=
    fun h k => by rw [hov]; rw [hxe] at h; exact thnF h k
  have stat : ∀ {pl : List (Addr × Obj)} {σ' : L2.St} {H' : Hp} {s' : Shared}, Inv X' pl σ' H' s' → pl = [] → (∀ b ∈ fp, H' b = none) → ∀ b ∈ fp, FpOk X' [] H' b := fun I' _ hn b hb => by
    have hb' : b ∈ X'.ex := by rw [hex]; exact hb
    exact ⟨hn b hb, (I'.ok.exf b hb').1, I'.ok.exfs b hb', .inl hb', fun x c e => (I'.ok.exf b hb').2 x c e, fun p hp => absurd (show p ∈ ([] : List (Addr × Obj)) from by rw [hpn] at hp; exact hp) (by simp)⟩
  intro n
  induction n using Nat.strongRecOn with
  | ind n ih =>
    intro i s₀ s5 H5 w5 I5 st5 n5
    show Seg _ A _ _ _ s₀ _ ((compTurn (.GeneratorExp elt [⟨tg, iter, ifs, 0⟩] scope pos) 0 (.ref it) .none X'.env).onRaise (leaving X'.env)) [] s5
    rw [compTurn_gen, Sem.onRaise_eq_wrap]
    refine seg_bind_wrap (wpAny_standAt ?_)
    rcases turn i n H5 w5 with ⟨stop, qq⟩ | ⟨go, Nx, hNx, step⟩
    · refine seg_bind_wrap (noE (T.done X' rfl rfl rfl hc i [] s5 _ H5 X'.xe I5 (stat I5 rfl n5) st5 stop) fun r s6 ⟨hr, I6⟩ => ?_)
      subst hr
      exact seg_end (.ok .next) ⟨rfl, H5, I6, n5, qq⟩
    · refine seg_bind_wrap (noE (T.item X' rfl rfl rfl hc i [] s5 _ H5 X'.xe I5 (stat I5 rfl n5) st5 go) fun r s6 ⟨u, hr, h6⟩ => ?_)
      subst hr
      refine seg_bind_wrap (noE h6 fun _ s7 ⟨x, H7, I7, r7, y7, st7, n7⟩ => ?_)
      have I7' := I7.pinned (stat I7 rfl n7) (T.obj _ _ st7)
      refine seg_bind_wrap (noE (pg.run _ s7 _ H7 x u _ I7' r7 (step x H7 y7)) fun _ s8 ⟨σ8, H8, I8, hw8, q8⟩ => ?_)
      refine seg_bind_wrap (noE (pt.run _ s8 σ8 H8 _ I8 q8) fun b s9 ⟨H9, I9, q9⟩ => ?_)
      cases b with
      | false =>
        simp only [Bool.false_eq_true, if_false] at q9 ⊢
        obtain ⟨m', hm, w'⟩ := hNx H9 q9
        have pin' : ∀ b ∈ fp, ∀ o, s7.heap.get? b = some o → s9.heap.get? b = some o ∧ H9 b = none := fun b hb o e =>
          let z := I9.pin (b, o) (List.mem_append_right _ (List.mem_append_right _ (mem_pinsAt hb e)))
          ⟨z.1, z.2.1⟩
        have hl : (wipe σ' vs).length = σ8.length := by rw [← hw8, wipe_length]
        refine seg_again rfl (ih m' hm (i + 1) s₀ s9 H9 w' ((I9.unpinned (pins := [])).weak hl fun j v e => ?_) (T.keep _ _ _ st7 fun b hb o e => (pin' b hb o e).1) fun b hb => ?_)
        · rw [← hw8] at e
          exact (wipe_some e).1
        · obtain ⟨o, e, _⟩ := T.obj _ _ st7 b hb
          exact (pin' b hb o e).2
      | true =>
        simp only [if_true] at q9 ⊢
        have hy : ∀ v, yieldOut X'.env v = yieldValue v := fun v => by simp only [yieldOut, hco, Bool.false_eq_true, if_false]
        simp only [hy]
        rw [Sem.bind_eq_wrap', Sem.bind_eq_wrap', Sem.wrap_wrap, Sem.wrap_wrap]
        refine seg_wrap (noE (pe.run _ s9 σ8 H9 _ I9 q9) fun z s10 ⟨yv, H10, I10, r10, q10⟩ => ?_)
        exact seg_at (seg_yield rfl rfl rfl ⟨_, σ8, yv, H10, I10, r10, q10⟩)
theorem seg_first {A : Around} {R : GenEnd} {Y : Protocol} {prog : Program} {w : World} {elt tg iter : Expr} {ifs : List Expr} {scope : Scope} {pos : Pos} {it : Addr} {env : Env} {n : Nat} {s₀ s : Shared} (self : ∀ (A : Around) (Q : Value → Shared → Prop) (E : Value → Shared → Prop), Q (.ref it) s → wpAny (model prog w) A (pyIter (.ref it)) Q E s)
    (loop : Seg (model prog w) A R Y n s₀ (.compLoop (.GeneratorExp elt [⟨tg, iter, ifs, 0⟩] scope pos) 0 (.ref it) .none env) ((model prog w).den (.compLoop (.GeneratorExp elt [⟨tg, iter, ifs, 0⟩] scope pos) 0 (.ref it) .none env)) [] s) :
    Seg (model prog w) A R Y n s₀ (.compStart (.GeneratorExp elt [⟨tg, iter, ifs, 0⟩] scope pos) 0 (.ref it) .none env) ((model prog w).den (.compStart (.GeneratorExp elt [⟨tg, iter, ifs, 0⟩] scope pos) 0 (.ref it) .none env)) [] s := by
  show Seg _ A _ _ _ s₀ _ ((compStart (.GeneratorExp elt [⟨tg, iter, ifs, 0⟩] scope pos) 0 (.ref it) .none env).onRaise (leaving env)) [] s
  unfold compStart
  rw [Sem.onRaise_eq_wrap]
  show Seg _ A _ _ _ s₀ _ ((ask >>= _).wrap _ _ _ _) [] s
  refine seg_bind_wrap (wpAny_askSetting ?_)
  split
  · exact seg_again rfl loop
  · first
      | exact seg_bind_wrap (wpAny_rule (seg_bind_wrap (wpAny_standAt (seg_bind_wrap (self _ _ _ (seg_again rfl loop))))))
      | (refine seg_bind_wrap (wpAny_rule ?_); show Seg _ A _ _ _ s₀ _ ((standAt iter.pos >>= _).wrap _ _ _ _) [] s; exact seg_bind_wrap (wpAny_standAt (seg_bind_wrap (self _ _ _ (seg_again rfl loop)))))
/-- the default: a value that no object stands for -/
def Dflt (X : Cx) (d : Expr) (dv : V) : Prop := ∀ (s : Shared) (Q : Value → Shared → Prop), (∀ u tk, RelV dv u → s.toks ≤ tk → Q u { s with toks := tk }) → wpAny (model X.prog X.w) X.A (eval d X.env) Q X.xe s
theorem dflt_none {j : Nat} {p : Pos} : Dflt X (.Constant .none j p) .non := fun s Q h => by
  first | exact wpAny_Constant_none (h _ s.toks rfl (Nat.le_refl _)) | exact PyProof.Rows.wpAny_Constant_none (h _ s.toks rfl (Nat.le_refl _)) | exact Calls.Constant_none (h _ s.toks rfl (Nat.le_refl _))
theorem pe_nextG {c P : Addr} {k : Nat} {d elt tg iter : Expr} {ifs : List Expr} {scope : Scope} {own : List (Str × Nat)} {p pos gpos : Pos} {wi : TI} {g : TG} {tt : TT} {te : TE} {dv : V}
    (hr : Room (k + 1) X.A) (hgn : Gl X "next") (hmn : X.mg "next" = none) (TB : TabB X.base X.mg c P) (hcode : X.env.code = .ref c) (hc : X.calm = true) (hN : X.N.Nodup) (hi : PI X tg iter wi) (ok : BlkOk X.N X.env.scope scope own)
    (hsc : scope.isCoroutine = false ∧ scope.names.lookup (".0" : Str) = some NameKind.local ∧ ∀ y ∈ scope.names, y.2 ≠ .cell) (hd : Dflt X d dv)
    (hg : ∀ (A' : Around) (s : Shared) (H : Hp) (C : Addr) (cl : List (Str × Addr)) (code : Value) (fp : List Addr), Room k A' → PG (gcx X A' s H (genEnv scope cl C code builtinsNs X.env) fp) tg g)
    (ht : ∀ (A' : Around) (s : Shared) (H : Hp) (C : Addr) (cl : List (Str × Addr)) (code : Value) (fp : List Addr), Room k A' → PTs (gcx X A' s H (genEnv scope cl C code builtinsNs X.env) fp) ifs tt)
    (he : ∀ (A' : Around) (s : Shared) (H : Hp) (C : Addr) (cl : List (Str × Addr)) (code : Value) (fp : List Addr), Room k A' → PE (gcx X A' s H (genEnv scope cl C code builtinsNs X.env) fp) elt te)
    (hs : ∀ v, genFold iter X.env v = pure v := by intro _; rfl)
    (he1 : starEach [.GeneratorExp elt [⟨tg, iter, ifs, 0⟩] scope gpos, d] X.env = (false, eval (.GeneratorExp elt [⟨tg, iter, ifs, 0⟩] scope gpos) X.env) :: starEach [d] X.env := by rfl)
    (he2 : starEach [d] X.env = [(false, eval d X.env)] := by rfl) :
    PE X (.Call (.Name "next" p) [.GeneratorExp elt [⟨tg, iter, ifs, 0⟩] scope gpos, d] [] pos) (tNx P wi g tt te (own.map (·.2)) dv) := by
  refine ⟨fun pins s σ H Q I h => ?_⟩
  refine wpAny_Call_Name_kw (ld_blt I hgn hmn boot_next ?_)
  refine PyProof.Rows.callWith_builtin1 ?_ he1 (by rw [he2]; rfl)
  rw [he1, he2]
  show wpAny _ _ (spliced ((false, eval (.GeneratorExp elt [⟨tg, iter, ifs, 0⟩] scope gpos) X.env) :: (false, eval d X.env) :: [])) _ _ s
  have hfree : ∀ y ∈ scope.names, y.2 = .free → ∃ c, X.env.cells.lookup y.1 = some c := fun y hy e => by
    rcases ok.free y hy e with k | k
    · exact I.ok.has _ (.inl k)
    · exact I.ok.has _ (.inr k)
  refine Calls.spliced_cons ?_
  refine wpAny_GeneratorExp_make hsc.1 (closure_ok hfree) hsc.2.2 hsc.2.1 ok.kind (by have := hr.dp; omega) ?_ hs
  refine thn (hi.run pins s σ H _ I h) fun xv s1 hx => thn hx fun itv s2 h2 => ?_
  obtain ⟨it, fp, tn, J, H2, e, I2, T, st2, f2, ⟨ps, hP, htr⟩, q⟩ := h2
  subst e
  have hPs : s2.heap.get? P = some { cls := .none, data := .fields ps } := I2.hok P _ hP
  have cd : PySem.W.CodeHd s2.heap c P := TB.code.keeps fun b u e => I2.bk b u e
  have sz : ∀ b ∈ fp, b < s2.heap.objs.size := fun b hb => by
    obtain ⟨o, e, _⟩ := T.obj _ _ st2 b hb
    exact Heap.lt_size e
  have fpP : ∀ b ∈ fp, b ≠ P := fun b hb z => by
    have := (f2 b hb).1
    rw [z, hP] at this
    cases this
  refine ⟨I2.nolimit, ?_⟩
  have cont : ∀ (code : Value) (h3 : Heap) (tk : Nat) (ps' : Array Value), Heap.ExtBut P s2.heap h3 → s2.heap.objs.size ≤ h3.objs.size → h3.get? P = some { cls := .none, data := .fields ps' } → (∃ more, ps' = ps ++ more) → TriplesOk ps'.toList →
      wpAny (model X.prog X.w) X.A (builtinsFor X.env.globals X.env.builtins) (fun bi s₄ =>
        ∀ h', h'.Ns s₄.heap.objs.size (fun y => if y = ".0" then some (.ref it) else none) → Heap.SameBut s₄.heap.objs.size (s₄.heap.push { cls := .type "frame", data := .dict #[] }) h' →
          wpAny (model X.prog X.w) X.A (spliced ((false, eval d X.env) :: [])) (fun us s' => wpAny (model X.prog X.w) X.A (call (.builtin "next") (Value.ref h'.objs.size :: us)) (EP X pins σ Q) X.xe s') X.xe { s₄ with
            gens := s₄.gens.push (.fresh (.compStart (.GeneratorExp elt [⟨tg, iter, ifs, 0⟩] scope gpos) 0 (.ref it) .none (genEnv scope (cloFrom X.env.cells scope.names []) s₄.heap.objs.size code bi X.env))),
            toks := s₄.toks + 1 + 1 + 1,
            heap := h'.push { cls := .type "generator", data := .fields #[.int s₄.gens.size 0, .str "<genexpr>" (s₄.toks + 1), .str (X.env.qual ++ "<genexpr>") (s₄.toks + 1 + 1)] } }) X.xe { s2 with heap := h3, toks := tk } := by
    intro code h3 tk ps' hx hsz hP3 hmore ht3
    obtain ⟨more, em⟩ := hmore
    obtain ⟨bm, ob, e1, e2, e3, e4, e5, e6, e7, e8⟩ := TB.bm
    have I4 := inv_tab (more := more) (h' := h3) (g' := s2.gens) (d' := s2.drawn) (t' := tk) I2 hP (fun b u hb e => hx b u hb e) (by rw [← em]; exact hP3) I2.bare
    have hTb : Tabbed P H2 (upd H2 P (.tbl (ps ++ more))) := ⟨⟨ps ++ more, upd_same, by rw [← em]; exact ht3⟩, fun b hb => upd_ne hb⟩
    generalize hH3 : upd H2 P (.tbl (ps ++ more)) = H3 at I4 hTb
    have n3 : ∀ b ∈ fp, H3 b = none := fun b hb => by rw [← hH3, upd_ne (fpP b hb)]; exact (f2 b hb).1
    have st3 : tn 0 h3 := T.keep _ _ _ st2 fun b hb o e => hx b o (fpP b hb) e
    refine wpAny_builtinsFor (m := X.mg) (by rw [I4.ok.glob]; exact I4.ok.mod.glob.keeps I4.bk) e1 e2 (I4.bk _ _ e5) e6 e7 e8 ?_
    have I4 : Inv X pins σ H3 { s2 with heap := h3, toks := tk } := I4
    generalize hs4 : ({ s2 with heap := h3, toks := tk } : Shared) = s4 at I4 ⊢
    have eh : s4.heap = h3 := by rw [← hs4]
    intro h' hn' hs'
    have st4 : tn 0 s4.heap := by rw [eh]; exact st3
    have hsz' : h'.objs.size = s4.heap.objs.size + 1 := by rw [hs'.1, Heap.size_push]
    have keep' : ∀ b o, s4.heap.get? b = some o → h'.get? b = some o := fun b o e => hs'.extBut b o (Nat.ne_of_lt (Heap.lt_size e)) (Heap.get?_push_of_some _ e)
    refine Calls.spliced_cons (hd _ _ fun u tk5 ru htk => Calls.spliced_nil ?_)
    generalize hgo : (h'.push { cls := .type "generator", data := .fields #[.int s4.gens.size 0, .str "<genexpr>" (s4.toks + 1), .str (X.env.qual ++ "<genexpr>") (s4.toks + 1 + 1)] } : Heap) = h5
    have keep5 : ∀ b o, s4.heap.get? b = some o → h5.get? b = some o := fun b o e => by rw [← hgo]; exact Heap.get?_push_of_some _ (keep' b o e)
    have hn5 : h5.Ns s4.heap.objs.size (fun y => if y = ".0" then some (.ref it) else none) := by rw [← hgo]; exact hn'.push _
    have isg : h5.IsGen h'.objs.size s4.gens.size := by rw [← hgo]; exact ⟨_, _, _, Heap.get?_push_size _ rfl, rfl, rfl, rfl⟩
    obtain ⟨W, ⟨m0, w0⟩, turn⟩ := q H3 hTb
    have hfp : ∀ b ∈ fp, FpOk X pins H3 b ∧ b < s4.heap.objs.size := fun b hb => ⟨⟨n3 b hb, (f2 b hb).2⟩, Nat.lt_of_lt_of_le (sz b hb) (by rw [eh]; exact hsz)⟩
    have hroomB : Room k (X.A.in1.in1.deeper (genEnv scope (cloFrom X.env.cells scope.names []) s4.heap.objs.size code builtinsNs X.env)) := room_gen hr _
    have back : ∀ {pl : List (Addr × Obj)} {σ8 : L2.St} {H' : Hp} {s' s'' : Shared}, Inv (gcx X (X.A.in1.in1.deeper (genEnv scope (cloFrom X.env.cells scope.names []) s4.heap.objs.size code builtinsNs X.env)) s4 H3 (genEnv scope (cloFrom X.env.cells scope.names []) s4.heap.objs.size code builtinsNs X.env) fp) pl σ8 H' s' →
        s''.os = s'.os → (∀ b o, s'.heap.get? b = some o → s''.heap.get? b = some o) → AllBare s''.gens → Inv X pins σ H' s'' := fun {pl σ8 H' s' s''} I' ho hk hb =>
      I4.call' (ch := fp) (ho.trans I'.os) (I'.base.trans (Un.kept hk)) (I'.hok.kept hk) hb fun b hb => ⟨(hfp b hb).1.2.2.2.1, (hfp b hb).1.2.1, (hfp b hb).1.2.2.2.2.1, (hfp b hb).1.2.2.2.2.2⟩
    refine call_next_once (s := { s4 with gens := s4.gens.push (.fresh (.compStart (.GeneratorExp elt [⟨tg, iter, ifs, 0⟩] scope gpos) 0 (.ref it) .none (genEnv scope (cloFrom X.env.cells scope.names []) s4.heap.objs.size code builtinsNs X.env))), toks := tk5, heap := h5 })
      hr.hd (I4.nolimit.keeps keep5) (by have := hr.dp; omega) isg (Array.getElem?_push_size ..)
      ⟨rfl, seg_first (fun A' Q' E' hq => T.self A' 0 _ Q' E' (T.keep _ _ _ st4 fun b _ o e => keep5 b o e) hq)
        (seg_turns (X' := gcx X (X.A.in1.in1.deeper (genEnv scope (cloFrom X.env.cells scope.names []) s4.heap.objs.size code builtinsNs X.env)) s4 H3 (genEnv scope (cloFrom X.env.cells scope.names []) s4.heap.objs.size code builtinsNs X.env) fp) (dv := dv) (Q := Q) (σ' := σ) (vs := own.map (·.2)) rfl hsc.1 rfl rfl rfl rfl T
          (hg _ _ _ _ _ _ _ hroomB) (ht _ _ _ _ _ _ _ hroomB) (he _ _ _ _ _ _ _ hroomB) turn m0 0 _ _ H3 w0
          (gen_start (A' := X.A.in1.in1.deeper (genEnv scope (cloFrom X.env.cells scope.names []) s4.heap.objs.size code builtinsNs X.env)) (code := code) I4 ok hN hsc.2.2 hfp hr.hd (Around.frames_deeper (A := X.A.in1.in1) I4.ok.frames) keep5 hn5 (by rfl) (bare_set (x := .running) (I4.bare.push (g := .fresh _) rfl) rfl))
          (T.keep _ _ _ st4 fun b _ o e => keep5 b o e) n3)⟩
      (fun v s₁ gs' hb ⟨pl, σ8, x, H', I', rx, qx⟩ => ⟨x, H', back I' rfl (fun _ _ e => e) (bare_set I'.bare hb), rx, qx⟩)
      (fun s₁ ⟨H', I', _, qx⟩ h'' hk => ⟨dv, H', back I' rfl hk (bare_set I'.bare rfl), ru, qx⟩)
  cases hf : codeAmong gpos ps.toList with
  | none =>
    refine wpAny_genexprCodeX hcode (cd.code hPs htr) (cd.tab hPs) hf fun c' h' tk hx hge hlt hco' _ htab' _ => ?_
    obtain ⟨o1, vs, f1, tf, fl, tg, inF, tx, tt, op, _, _, _, _, _, _, _, _, _, htr', _⟩ := hco'
    exact cont _ h' tk _ hx (Nat.le_trans hge (Nat.le_of_lt hlt)) htab'.2 ⟨_, rfl⟩ htr'
  | some cv =>
    refine wpAny_genexprCode_hit hcode (cd.code hPs htr) hf ?_
    exact cont cv s2.heap s2.toks ps (Heap.ExtBut.refl _ _) (Nat.le_refl _) hPs ⟨#[], by simp⟩ htr
end
end GenCx

set_option Elab.async false
set_option linter.all false
set_option maxRecDepth 100000
set_option maxHeartbeats 2000000
/-! the turns of next(.. for .. in ..) over a list, a tuple -/
namespace GenCx
open PySem PySem.Spec PyProof.Rows L2 GxR EnumT GenNx
theorem nx_list {K : PySem.W.Frag} {a : Addr} {xs : List V} {g : TG} {tt : TT} {te : TE} {vs : List Nat} {σ : L2.St} {H2 : Hp} {dv : V} {Q : VK} (Pv : Nat → Hp → Prop) (h0 : Pv 0 H2) (hl : ∀ i H, i ≤ xs.length → Pv i H → SqL K H a xs)
    (hs : ∀ i x H, xs[i]? = some x → Pv i H → g x (wipe σ vs) H fun σ2 H2 => wipe σ2 vs = wipe σ vs ∧ tt σ2 H2 fun b H3 => if b = true then te σ2 H3 Q else Pv (i + 1) H3) (hd : ∀ H, Pv xs.length H → Q dv H) :
    ∃ W : Nat → Nat → Hp → Prop, (∃ m, W 0 m H2) ∧ ∀ i n H5, W i n H5 →
      ((Itl K a).stop i H5 ∧ Q dv H5) ∨ ((Itl K a).go i H5 ∧ ∃ Nx : Hp → Prop, (∀ H', Nx H' → ∃ m', m' < n ∧ W (i + 1) m' H') ∧ ∀ x H7, (Itl K a).yld i H5 x H7 → g x (wipe σ vs) H7 fun σ8 H8 => wipe σ8 vs = wipe σ vs ∧ tt σ8 H8 fun b H9 => if b = true then te σ8 H9 Q else Nx H9) := by
  refine ⟨fun i m H => m = xs.length - i ∧ i ≤ xs.length ∧ Pv i H, ⟨xs.length, by simp, Nat.zero_le _, h0⟩, ?_⟩
  rintro i m H ⟨rfl, hi, p⟩
  have q := hl i H hi p
  by_cases hlt : i < xs.length
  · refine .inr ⟨⟨xs, xs[i], q, by simp [hlt]⟩, Pv (i + 1), fun H' p' => ⟨xs.length - (i + 1), by omega, rfl, hlt, p'⟩, fun x H' y => ?_⟩
    obtain ⟨e, y⟩ := y
    subst e
    exact hs i x _ (y xs q) p
  · have e : i = xs.length := by omega
    subst e
    exact .inl ⟨⟨xs, q, Nat.le_refl _⟩, hd H p⟩
end GenCx

set_option Elab.async false
set_option linter.all false
set_option maxRecDepth 100000
set_option maxHeartbeats 2000000
/-! HookW's Hook with defs that hold generator expressions: their code objects, the tables of these, empty at the start and left out of the fragment -/
namespace HookT
open PySem PySem.Spec PyProof.Rows L2 He HookG
/-- the code object of the function at a -/
def codA (K : PySem.W.Frag) (a : Addr) : Addr := match K.lookup a with
  | some ⟨_, _, .func fd, _⟩ => (match fd.code with
    | .ref c => c
    | _ => 0)
  | _ => 0
theorem code_of {K : PySem.W.Frag} {x qual : Str} {params : Arguments} {body : List Stmt} {scope : Scope} {dvs : List V} {kws : List (Str × V)} {f : Addr} {fd : FuncData} (F : FunD K x qual params body scope dvs kws f fd) : fd.code = .ref (codA K f) := by
  obtain ⟨oc, od, dV, kV, doc, pm, an, cdv, ct, osl, rfl, lk, hcd, _, _⟩ := F.ex
  obtain ⟨c, rfl⟩ := codeIn_ref hcd
  unfold codA
  rw [lk] <;> rfl
/-- FunD.ok with the code object known -/
theorem okC {P : Program} {w : World} {K : PySem.W.Frag} {mg : Str → Option Value} {base : Heap} {x qual : Str} {params : Arguments} {body : List Stmt} {scope : Scope} {dvs : List V} {kws : List (Str × V)} {f : Addr} {fd : FuncData} {CX : CXT} {N ps : List Str} {k : Nat} {sp : Sp}
    (F : FunD K x qual params body scope dvs kws f fd) (S : FnScope N ps scope) (len : ∀ vs H Q E, sp vs H Q E → vs.length = ps.length)
    (hbody : ∀ (A : Around) (outer : List Env) (s : Shared) (H : Hp) (vs : List V) (Q : VK) (E : XK), Room k (A.deeper (envOfC qual scope s.heap.objs.size f fd.code)) → sp vs H Q E →
      ∃ t, PSs (cxOf CX P w K mg base N qual scope f fd.code A outer s H E) body t ∧ t { nx := fun _ H' => Q .non H', rt := Q } (start N vs) H) : FnOk P w K mg base CX (k + 1) f fd ps sp := by
  obtain ⟨oc, od, dV, kV, doc, pm, an, cdv, ct, osl, rfl, lk, hcd, _, _⟩ := F.ex
  exact fn_of lk hcd S len fun A outer s H vs Q E hr hsp => hbody A outer s H vs Q E hr hsp
def cTA (K : PySem.W.Frag) (p : At) : Addr × Addr := (codA K (p.adr K), tabOf K (codA K (p.adr K)))
structure SaysGT (fa : List Fa) (fn : List GD) (tf : List At) (ex : PySem.W.Frag → Bool) (h : Heap) (K : PySem.W.Frag) : Prop where
  g : SaysG fa fn ex K
  hd : ∀ p ∈ tf, PySem.W.codeHdIn K (cTA K p).1 (cTA K p).2 = true
  out : ∀ p ∈ tf, K.lookup (cTA K p).2 = none
  empty : ∀ p ∈ tf, h.get? (cTA K p).2 = some { cls := .none, data := .fields #[] }
def tabsB (g : Addr → Option Obj) (tf : List At) (K : PySem.W.Frag) : Bool := tf.all fun p => PySem.W.codeHdIn K (cTA K p).1 (cTA K p).2 && (match g (cTA K p).2 with
  | some o => emptyTab o
  | none => false)
abbrev AlGT : Type := AlG × Bool
def obsGT (n : Nat) (fa : List Fa) (fn : List GD) (tf : List At) (ex : PySem.W.Frag → Bool) (g : Addr → Option Obj) : AlGT := (obsG fa fn ex (frT g (asW g n)), tabsB g tf (frT g (asW g n)))
theorem saysGT_of {n : Nat} {fa : List Fa} {fn : List GD} {tf : List At} {ex : PySem.W.Frag → Bool} {h : Heap} (e : obsGT n fa fn tf ex h.get? = (valG fn, true)) : SaysGT fa fn tf ex h (frT h.get? (asW h.get? n)) := by
  have e1 : obsG fa fn ex (frT h.get? (asW h.get? n)) = valG fn := congrArg (fun z : AlGT => z.1) e
  have e2 : tabsB h.get? tf (frT h.get? (asW h.get? n)) = true := congrArg (fun z : AlGT => z.2) e
  have key : ∀ p ∈ tf, PySem.W.codeHdIn (frT h.get? (asW h.get? n)) (cTA (frT h.get? (asW h.get? n)) p).1 (cTA (frT h.get? (asW h.get? n)) p).2 = true ∧ ∃ o, h.get? (cTA (frT h.get? (asW h.get? n)) p).2 = some o ∧ emptyTab o = true := fun p hp => by
    obtain ⟨h3, h4⟩ := ba (List.all_eq_true.mp e2 p hp)
    refine ⟨h3, ?_⟩
    cases q : h.get? (cTA (frT h.get? (asW h.get? n)) p).2 with
    | none =>
      rw [q] at h4
      cases h4
    | some o =>
      rw [q] at h4
      exact ⟨o, rfl, h4⟩
  exact ⟨e1, fun p hp => (key p hp).1, fun p hp => by
    obtain ⟨_, o, q, z⟩ := key p hp
    exact frT_none q z, fun p hp => by
    obtain ⟨_, o, q, z⟩ := key p hp
    rw [q, emptyTab_eq z]⟩
def hookT (n : Nat) (fa : List Fa) (fn : List GD) (tf : List At) (ex : PySem.W.Frag → Bool) : PySem.W.Hook where
  α := AlGT
  obs := fun s => obsGT n fa fn tf ex s.heap.get?
  val := fun _ => (valG fn, true)
  says := fun _ h => ∃ K : PySem.W.Frag, K.In h ∧ SaysGT fa fn tf ex h K
  of := fun _ _ e => ⟨_, frT_in, saysGT_of e⟩
  keeps := fun _ _ _ ⟨K, hK, c⟩ k => ⟨K, PySem.W.Frag.In.keeps hK k, ⟨c.g, c.hd, c.out, fun p hp => k _ _ (c.empty p hp)⟩⟩
theorem obsGT_eq {n : Nat} {fa : List Fa} {fn : List GD} {tf : List At} {ex : PySem.W.Frag → Bool} {g : Addr → Option Obj} {s : Shared} (h : ∀ a, g a = s.heap.get? a) : obsGT n fa fn tf ex g = (hookT n fa fn tf ex).obs s := by
  have e : g = s.heap.get? := funext h
  rw [e] <;> rfl
/-- a table at the start -/
theorem tabG0 {H : Hp} {P : Addr} (h : H P = some (.tbl #[])) : GxR.TabG H P := ⟨#[], h, True.intro⟩
end HookT

set_option Elab.async false
set_option linter.all false
set_option maxRecDepth 100000
set_option maxHeartbeats 2000000
/-! any of a list of ints -/
namespace OwnF
open PySem PySem.Spec PyProof.Rows L2 SlX OwnR
section
variable {X : Cx}
def rAnyLI (K : PySem.W.Frag) : List V → Hp → VK → Prop := fun vs H Q => ∃ (a : Addr) (ns : List Int), vs = [V.ref a] ∧ SqL K H a (ns.map V.int) ∧ Q (.bl (ns.any (· != 0))) H
theorem cr_anyLI (hc : X.calm = true) : CallR X (.builtin "any") (rAnyLI X.K) := by
  intro pins s σ H vs us Q I r h
  obtain ⟨a, ns, rfl, hs, q⟩ := h
  obtain ⟨its, rv, hl, _⟩ := I.list hs
  rw [Vals.ref1 r]
  have hlen := rv.length
  rw [List.length_map] at hlen
  refine call_any_walk (iter_any hl.isList fun s₂ e2 st hne => ?_)
  subst e2
  refine ⟨_, _, _, _, _, _, _, rfl, Walks.list (A := X.A.in1) (I.ok.hd hc) _ a hne its.toArray, st, truth_ints rv, fun h' tk hk => ?_⟩
  refine ⟨.bl _, H, I.kept fun b o eo => hk b o (fun hmem => ?_) (Heap.get?_push_of_some _ eo), ?_, q⟩
  · rcases List.mem_cons.mp hmem with e1 | hmem
    · exact absurd (e1 ▸ Heap.lt_size eo) (Nat.lt_irrefl _)
    · cases hmem
  · show Value.bool _ = Value.bool _
    rw [← any_rangeI, List.size_toArray, ← hlen]
end
end OwnF

set_option Elab.async false
set_option linter.all false
set_option maxRecDepth 100000
set_option maxHeartbeats 4000000
/-! tuple * int, the int 1, too: the same tuple -/
namespace RepT
open PySem PySem.Spec PyProof.Rows L2
theorem tuple_mul1 (l : Addr) (items : Array Value) (n : Nat) (dd : Option Addr) (sl : Array (Option Value)) (u : Tok) :
    Meets (Builtin.«tuple.__mul__» ⟨[.ref l, .int 1 u], []⟩) (fun _ R s => s.heap.get? l = some { cls := .type "tuple", dict := dd, data := .seq items n, slots := sl } ∧ R (.ok (.ret (Value.ref l))) s) :=
  .of_wp fun prog w A R s h => by
    obtain ⟨hp, g, d, tk, os⟩ := s
    obtain ⟨hl, h⟩ := h
    have f1 := AutoSeq1.idx_int
    have hT : Shared.TypeIs ⟨hp, g, d, tk, os⟩ (.ref l) "tuple" := ⟨_, hl, rfl⟩
    have c1 : (items.isEmpty || (1 : Int) == 1) = true := by rw [show ((1 : Int) == 1) = true from rfl, Bool.or_true]
    wp_walk using AutoSeq1.wpAny_loadPart' hl, wpAny_typeOf hT
    repeat (first
      | (refine wpAny_ite_true (by rw [c1]) ?_; wp_walk using AutoSeq1.wpAny_loadPart' hl, wpAny_typeOf hT))
    exact ⟨_, rfl, h⟩
def rRep1 (K : PySem.W.Frag) : R2 := fun x y H Q => (∃ l xs, x = .ref l ∧ y = .int 1 ∧ SqT K H l xs ∧ Q (.ref l) H) ∨ rRepT K x y H Q
theorem op_rep1 {X : Cx} : OpR X (binaryOp .Mult) (rRep1 X.K) := by
  intro pins s σ H x y v u Q I rx ry h
  rcases h with h | h
  · obtain ⟨l, xs, rfl, rfl, hT, q⟩ := h
    cases rx
    obtain ⟨t, rfl⟩ := ry
    obtain ⟨its, r, ⟨⟨cls, dd, data, sl⟩, ho, hc, n, hd⟩, hs⟩ := I.tuple hT
    simp only at hc hd
    subst hc hd
    refine wpAny_binaryOp_repeat_ref (T := "tuple") (U := "int") (by decide) ⟨_, ho, rfl⟩ (fun s' => typeIs_int s' 1 t) noFill_tuple_mul F.fills_int_mul F.slot_int_rmul repeat_tuple F.slot_int_index.lookup
      (call_meets F.slot_int_rmul (typeIs_int s 1 t) F.entry_int_rmul (F.args_int_rmul_2 _ _) (int_rmul_tuple 1 t l its.toArray n dd sl)
        ⟨ho, rfl, ⟨_, ho, rfl⟩, call_meets F.slot_tuple_mul ⟨_, ho, rfl⟩ F.entry_tuple_mul (F.args_tuple_mul_2 _ _) (tuple_mul1 l its.toArray n dd sl t) ⟨ho, ?_⟩⟩)
    exact ⟨.ref l, H, I, rfl, q⟩
  · exact op_repT pins s σ H x y v u Q I rx ry h
end RepT

set_option Elab.async false
set_option linter.all false
set_option maxRecDepth 100000
set_option maxHeartbeats 4000000
/-! tuple * int, the int 0, too: an empty tuple -/
namespace RepZ
open PySem PySem.Spec PyProof.Rows L2 RepT
theorem tuple_mul0 (l : Addr) (items : Array Value) (n : Nat) (dd : Option Addr) (sl : Array (Option Value)) (u : Tok) (hne : items.isEmpty = false) :
    Meets (Builtin.«tuple.__mul__» ⟨[.ref l, .int 0 u], []⟩) (fun _ R s => s.heap.get? l = some { cls := .type "tuple", dict := dd, data := .seq items n, slots := sl } ∧
      R (.ok (.ret (Value.ref s.heap.objs.size))) { s with heap := s.heap.push { cls := Value.type "tuple", data := Data.seq #[] }, toks := s.toks }) :=
  .of_wp fun prog w A R s h => by
    obtain ⟨hp, g, d, tk, os⟩ := s
    obtain ⟨hl, h⟩ := h
    have f1 := AutoSeq1.idx_int
    have c1 : (items.isEmpty || (0 : Int) == 1) = false := by rw [hne]; rfl
    have c2 : (decide ((0 : Int) ≤ 0) || items.isEmpty) = true := by rw [decide_eq_true (Int.le_refl 0)]; rfl
    wp_walk using AutoSeq1.wpAny_loadPart' hl
    repeat (first
      | (refine wpAny_ite_false (decide_eq_false (by rw [c1]; exact Bool.false_ne_true)) ?_; wp_walk using AutoSeq1.wpAny_loadPart' hl)
      | (refine wpAny_ite_true (by rw [c2]) ?_; wp_walk using AutoSeq1.wpAny_loadPart' hl))
    exact ⟨_, rfl, h⟩
def rRep0 (K : PySem.W.Frag) : R2 := fun x y H Q => (∃ l xs, x = .ref l ∧ y = .int 0 ∧ SqT K H l xs ∧ xs ≠ [] ∧ ∀ p, H p = none → Q (.ref p) (upd H p (.tup []))) ∨ rRep1 K x y H Q
theorem op_rep0 {X : Cx} : OpR X (binaryOp .Mult) (rRep0 X.K) := by
  intro pins s σ H x y v u Q I rx ry h
  rcases h with h | h
  · obtain ⟨l, xs, rfl, rfl, hT, hne, q⟩ := h
    cases rx
    obtain ⟨t, rfl⟩ := ry
    obtain ⟨its, r, ⟨⟨cls, dd, data, sl⟩, ho, hc, n, hd⟩, hs⟩ := I.tuple hT
    simp only at hc hd
    subst hc hd
    have hl := r.length
    have he : its.toArray.isEmpty = false := by
      rw [List.isEmpty_toArray]
      cases its with
      | nil =>
        exact absurd (List.length_eq_zero_iff.mp (by simpa using hl)) hne
      | cons => rfl
    refine wpAny_binaryOp_repeat_ref (T := "tuple") (U := "int") (by decide) ⟨_, ho, rfl⟩ (fun s' => typeIs_int s' 0 t) noFill_tuple_mul F.fills_int_mul F.slot_int_rmul repeat_tuple F.slot_int_index.lookup
      (call_meets F.slot_int_rmul (typeIs_int s 0 t) F.entry_int_rmul (F.args_int_rmul_2 _ _) (int_rmul_tuple 0 t l its.toArray n dd sl)
        ⟨ho, rfl, ⟨_, ho, rfl⟩, call_meets F.slot_tuple_mul ⟨_, ho, rfl⟩ F.entry_tuple_mul (F.args_tuple_mul_2 _ _) (tuple_mul0 l its.toArray n dd sl t he) ⟨ho, ?_⟩⟩)
    refine ⟨.ref s.heap.objs.size, _, I.laid (t' := s.toks) (o := .tup []) (fun b ob q => Heap.get?_push_of_some _ q) (Nat.le_refl _) ?_, rfl, q _ (I.hok.fresh (Nat.le_refl _))⟩
    exact ⟨Nat.zero_le _, [], .nil, IsTup.new _ _⟩
  · exact op_rep1 pins s σ H x y v u Q I rx ry h
/-- (c,) * n -/
theorem rep_any {K : PySem.W.Frag} {p0 : Addr} {H : Hp} {n : Nat} {k c : Int} {Q : VK} (h0 : H p0 = some (.tup ([c].map V.int))) (hk : k = (n : Int)) (h2 : n ≤ 1000) (q : ∀ p H', (∀ b o, H b = some o → H' b = some o) → H' p = some (.tup ((List.replicate n c).map V.int)) → Q (.ref p) H') : rRep0 K (.ref p0) (.int k) H Q := by
  subst hk
  have h := SqT.of (K := K) h0
  have up : ∀ p o, H p = none → ∀ b u, H b = some u → upd H p o b = some u := fun p o hp b u e => by
    rw [upd_ne fun z => by rw [z, hp] at e; cases e]
    exact e
  by_cases e0 : n = 0
  · subst e0
    exact .inl ⟨p0, _, rfl, rfl, h, by simp, fun p hp => q p _ (up p _ hp) upd_same⟩
  by_cases e : n = 1
  · subst e
    exact .inr (.inl ⟨p0, _, rfl, rfl, h, q p0 H (fun _ _ e => e) h0⟩)
  · refine .inr (.inr ⟨p0, (n : Int), _, rfl, rfl, h, by simp, by omega, by omega, by simp, fun p hp => q p _ (up p _ hp) ?_⟩)
    rw [upd_same, Int.toNat_natCast]
    show some (HO.tup (List.replicate n [V.int c]).flatten) = some (HO.tup ((List.replicate n (c : Int)).map V.int))
    rw [List.flatten_replicate_singleton, List.map_replicate]
end RepZ

set_option Elab.async false
set_option linter.all false
set_option maxRecDepth 100000
set_option maxHeartbeats 2000000
/-! zip of a list and a tuple -/
namespace ZipX
open PySem PySem.Spec PyProof.Rows L2 RZ
/-- the list at a, the tuple at b as they stand at each turn, the items in new pairs -/
def ItzX (K : PySem.W.Frag) (a b : Addr) : It :=
  ⟨fun i H => ∃ (xs ys : List V) (x y : V), SqL K H a xs ∧ SqT K H b ys ∧ xs[i]? = some x ∧ ys[i]? = some y,
    fun i H v H' => ∃ T x y, v = .ref T ∧ H T = none ∧ H' = upd H T (.tup [x, y]) ∧ (∀ xs, SqL K H a xs → xs[i]? = some x) ∧ ∀ ys, SqT K H b ys → ys[i]? = some y,
    fun i H => ∃ xs ys : List V, SqL K H a xs ∧ SqT K H b ys ∧ xs.length = ys.length ∧ xs.length = i⟩
def StX (a b z TI TO i1 i2 : Addr) (i : Nat) (h : Heap) : Prop := IsZip h z TI TO .none ∧ IsPair h TI (.ref i1) (.ref i2) ∧ (∃ x y, IsPair h TO x y) ∧ h.IsListIter i1 a i ∧ h.IsTupleIter i2 b i
theorem turn_zipX {P : Program} {w : World} {K : PySem.W.Frag} {elts : List Expr} {kk : Nat} {tpos : Pos} {a b z TI TO i1 i2 : Addr} (D : ZipApart z TI TO i1 i2 a b) :
    Turn P w K (.Tuple elts kk tpos) (ItzX K a b) [z, TI, TO, i1, i2] z (StX a b z TI TO i1 i2) where
  mem := by simp
  obj := fun i h st c hc => by
    obtain ⟨hz, hTI, ⟨x, y, hTO⟩, ⟨o1, e1, _, d1⟩, ⟨o2, e2, _, d2⟩⟩ := st
    have e' : c = z ∨ c = TI ∨ c = TO ∨ c = i1 ∨ c = i2 := by simpa using hc
    rcases e' with q | q | q | q | q
    · rw [q]
      exact ⟨_, hz, fun v q => nomatch q⟩
    · rw [q]
      exact ⟨_, hTI, fun v q => nomatch q⟩
    · rw [q]
      exact ⟨_, hTO, fun v q => nomatch q⟩
    · rw [q]
      exact ⟨o1, e1, fun v q => by rw [d1] at q; cases q⟩
    · rw [q]
      exact ⟨o2, e2, fun v q => by rw [d2] at q; cases q⟩
  keep := fun i h h' st k => by
    obtain ⟨hz, hTI, ⟨x, y, hTO⟩, h1, h2⟩ := st
    exact ⟨k z (by simp) _ hz, k TI (by simp) _ hTI, ⟨x, y, k TO (by simp) _ hTO⟩, h1.at fun o q => k i1 (by simp) o q, h2.at fun o q => k i2 (by simp) o q⟩
  item := by
    intro X hP hw hK hc i pins s σ H E I hf st hg
    subst hP hw hK
    obtain ⟨hz, hTI, ⟨x0, y0, hTO⟩, h1, h2⟩ := st
    obtain ⟨xs, ys, x, y, hqx, hqy, hx, hy⟩ := hg
    obtain ⟨its, rv, p, _⟩ := I.list hqx
    obtain ⟨its2, rv2, p2, _⟩ := I.tuple hqy
    obtain ⟨u, hu, ru⟩ := rv.get hx
    obtain ⟨u2, hu2, ru2⟩ := rv2.get hy
    have hzl : z < s.heap.objs.size := Heap.lt_size hz
    have S : ZipSep2 z TI TO i1 i2 [i1, a] [i2, b] := ⟨D.TIz, D.TOz, D.TITO, D.TIi1, by simp, by simp [Ne.symm D.i1z, Ne.symm D.l1z], by simp [D.TOi1, Ne.symm D.l1TO], D.TIi2, by simp, by simp [Ne.symm D.i2z, Ne.symm D.l2z], by simp [D.TOi2, Ne.symm D.l2TO], by simp [D.i12, Ne.symm D.l2i1], by simp [Ne.symm D.i12, Ne.symm D.l1i2]⟩
    have l1 := (List.getElem?_eq_some_iff.mp hu).1
    have l2 := (List.getElem?_eq_some_iff.mp hu2).1
    refine wpAny_pyNext_zipD2_item S (Draws.list (A := X.A.in1) (I.ok.hd hc) i1 a D.l1i1 its.toArray) (Draws.tuple (A := X.A.in1) (I.ok.hd hc) i2 b D.l2i2 its2.toArray) hz hTI hTO ⟨h1, p.isList⟩ ⟨h2, p2⟩ (by simpa using l1) (by simpa using l2) fun x1 x2 h' tk e1 e2 z' TO' st1 st2 hT hsz hk => ?_
    obtain rfl : u = x1 := by
      have e1 : its[i]? = some x1 := by simpa using e1
      exact Option.some.inj (hu.symm.trans e1)
    obtain rfl : u2 = x2 := by
      have e2 : its2[i]? = some x2 := by simpa using e2
      exact Option.some.inj (hu2.symm.trans e2)
    refine ⟨_, rfl, wpAny_letOwnedTupleGo_zip (s := { s with heap := h', toks := tk }) z' fun h3 z3 sb => ?_⟩
    have hT2 : IsPair h3 s.heap.objs.size u u2 := (sb.2 _ (Nat.ne_of_gt hzl)).trans hT
    have new : ObjOk X.prog X.w (upd H s.heap.objs.size (.tup [x, y])) h3 s.heap.objs.size (.tup [x, y]) := ⟨(show 2 ≤ sizeLine by decide), [u, u2], .cons ru (.cons ru2 .nil), ⟨_, hT2, rfl, _, rfl⟩⟩
    have I1 : Inv X pins σ (upd H s.heap.objs.size (.tup [x, y])) { s with heap := h3, toks := tk } :=
      I.turnedNew (t' := tk) (ch := [z, TI, TO, i1, i2]) (fun c o hb q => by
        simp only [List.mem_cons, List.not_mem_nil, or_false, not_or] at hb
        exact (sb.2 c hb.1).trans (hk c o hb.1 hb.2.2.1 hb.2.2.2.1 hb.2.2.2.2 q)) hf (Nat.le_refl _) new
    refine ⟨.ref s.heap.objs.size, _, I1, rfl, ⟨_, x, y, rfl, I.hok.fresh (Nat.le_refl _), rfl, fun l hl => by rw [I.list_inj hl hqx]; exact hx, fun l hl => by rw [I.tuple_inj hl hqy]; exact hy⟩, ⟨z3, ?_, ⟨u, u2, ?_⟩, ?_, ?_⟩, fun c hcm => ?_⟩
    · exact (sb.2 _ D.TIz).trans (hk _ _ D.TIz D.TITO D.TIi1 D.TIi2 hTI)
    · exact (sb.2 _ D.TOz).trans TO'
    · exact st1.1.at fun o q => (sb.2 _ D.i1z).trans q
    · exact st2.1.at fun o q => (sb.2 _ D.i2z).trans q
    · have hlt : c < s.heap.objs.size := by
        have e' : c = z ∨ c = TI ∨ c = TO ∨ c = i1 ∨ c = i2 := by simpa using hcm
        rcases e' with q | q | q | q | q
        · rw [q]
          exact hzl
        · rw [q]
          exact Heap.lt_size hTI
        · rw [q]
          exact Heap.lt_size hTO
        · rw [q]
          obtain ⟨_, e1, _⟩ := h1
          exact Heap.lt_size e1
        · rw [q]
          obtain ⟨_, e2, _⟩ := h2
          exact Heap.lt_size e2
      rw [upd_ne (Nat.ne_of_lt hlt)]
      exact (hf c hcm).1
  done := by
    intro X hP hw hK hc i pins s σ H E I hf st hg
    subst hP hw hK
    obtain ⟨hz, hTI, ⟨x0, y0, hTO⟩, h1, h2⟩ := st
    obtain ⟨xs, ys, hqx, hqy, hl, hi⟩ := hg
    obtain ⟨its, rv, p, _⟩ := I.list hqx
    obtain ⟨its2, rv2, p2, _⟩ := I.tuple hqy
    have l1 := rv.length
    have l2 := rv2.length
    have S : ZipSep2 z TI TO i1 i2 [i1, a] [i2, b] := ⟨D.TIz, D.TOz, D.TITO, D.TIi1, by simp, by simp [Ne.symm D.i1z, Ne.symm D.l1z], by simp [D.TOi1, Ne.symm D.l1TO], D.TIi2, by simp, by simp [Ne.symm D.i2z, Ne.symm D.l2z], by simp [D.TOi2, Ne.symm D.l2TO], by simp [D.i12, Ne.symm D.l2i1], by simp [Ne.symm D.i12, Ne.symm D.l1i2]⟩
    refine wpAny_pyNext_zipD2_end S (Draws.list (A := X.A.in1) (I.ok.hd hc) i1 a D.l1i1 its.toArray) (Draws.tuple (A := X.A.in1) (I.ok.hd hc) i2 b D.l2i2 its2.toArray) hz hTI hTO ⟨h1, p.isList⟩ ⟨h2, p2⟩ (by simp; omega) (by simp; omega) (.inl (by simp; omega)) fun h' tk hk => ⟨rfl, I.turnedL (t' := tk) (ch := [z, TI, TO, i1, i2]) (fun c o hb q => ?_) hf⟩
    simp only [List.mem_cons, List.not_mem_nil, or_false, not_or] at hb
    exact hk c o hb.1 hb.2.2.1 hb.2.2.2.1 hb.2.2.2.2 q
  self := fun A i s Q E st h => wpAny_pyIter_zip st.1 h
abbrev xH1 (h : Heap) (l1 : Addr) : Heap := h.push { cls := .type "list_iterator", data := .fields #[.ref l1, .int 0 0] }
abbrev xH2 (h : Heap) (l1 l2 : Addr) : Heap := (xH1 h l1).push { cls := .type "tuple_iterator", data := .fields #[.ref l2, .int 0 0] }
abbrev xH3 (h : Heap) (l1 l2 : Addr) : Heap := (xH2 h l1 l2).push { cls := .type "tuple", data := .seq #[.ref h.objs.size, .ref (xH1 h l1).objs.size] }
abbrev xH4 (h : Heap) (l1 l2 : Addr) : Heap := (xH3 h l1 l2).push { cls := .type "tuple", data := .seq #[.none, .none] }
abbrev xH5 (h : Heap) (l1 l2 : Addr) : Heap := (xH4 h l1 l2).push { cls := .type "zip", data := .fields #[.none, .bool false, .bool false, .ref (xH2 h l1 l2).objs.size, .ref (xH3 h l1 l2).objs.size] }
theorem meets_zipX_new (l1 l2 : Addr) (xs ys : Array Value) :
    Meets (Builtin.«zip.__new__» ⟨[.type "zip", .ref l1, .ref l2], []⟩) (fun _ R s => s.heap.IsList l1 xs ∧ s.heap.IsTuple l2 ys ∧ R (.ok (.ret (.ref (xH4 s.heap l1 l2).objs.size))) { s with heap := xH5 s.heap l1 l2 }) :=
  .of_wp fun prog w A R s h => by
    obtain ⟨hp, g, d, tk, os⟩ := s
    obtain ⟨hl1, hl2, h⟩ := h
    have hsub := sub_zip
    have hL1 : Heap.IsList (Shared.heap ⟨hp, g, d, tk, os⟩) l1 xs := hl1
    have hL2 : Heap.IsTuple (Shared.heap ⟨hp.push { cls := .type "list_iterator", data := .fields #[.ref l1, .int 0 0] }, g, d, tk, os⟩) l2 ys := Heap.IsTuple.push hl2 _
    wp_walk using wpAny_pyIter_list hL1, wpAny_pyIter_tuple hL2
    exact ⟨_, rfl, h⟩
section
variable {prog : Program} {w : World} {A : Around} {E : Value → Shared → Prop} {s : Shared}
theorem call_zipX {l1 l2 : Addr} {xs ys : Array Value} {Q : Value → Shared → Prop} (hl1 : s.heap.IsList l1 xs) (hl2 : s.heap.IsTuple l2 ys)
    (h : ∀ h', StX l1 l2 (s.heap.objs.size + 4) (s.heap.objs.size + 2) (s.heap.objs.size + 3) s.heap.objs.size (s.heap.objs.size + 1) 0 h' → (∀ c o, s.heap.get? c = some o → h'.get? c = some o) → Q (.ref (s.heap.objs.size + 4)) { s with heap := h' }) :
    wpAny (model prog w) A (call (.type "zip") [.ref l1, .ref l2]) Q E s := by
  refine callType_new F.called_zip (by decide) (F.typeCall_zip_2 _ _) (F.newCall_zip_2 _ _) (fun obj => F.args_object_init_3 obj _ _) F.entry_zip_new (meets_zipX_new l1 l2 xs ys) ⟨hl1, hl2, ?_⟩
  have z1 : (xH1 s.heap l1).objs.size = s.heap.objs.size + 1 := Heap.size_push ..
  have z2 : (xH2 s.heap l1 l2).objs.size = s.heap.objs.size + 2 := by rw [Heap.size_push, z1]
  have z3 : (xH3 s.heap l1 l2).objs.size = s.heap.objs.size + 3 := by rw [Heap.size_push, z2]
  have z4 : (xH4 s.heap l1 l2).objs.size = s.heap.objs.size + 4 := by rw [Heap.size_push, z3]
  have g5 : (xH5 s.heap l1 l2).get? (xH4 s.heap l1 l2).objs.size = some _ := Heap.get?_push_size _ rfl
  have g4 : (xH5 s.heap l1 l2).get? (xH3 s.heap l1 l2).objs.size = some _ := Heap.get?_push_of_some _ (Heap.get?_push_size _ rfl)
  have g3 : (xH5 s.heap l1 l2).get? (xH2 s.heap l1 l2).objs.size = some _ := Heap.get?_push_of_some _ (Heap.get?_push_of_some _ (Heap.get?_push_size _ rfl))
  have g2 : (xH5 s.heap l1 l2).get? (xH1 s.heap l1).objs.size = some _ := Heap.get?_push_of_some _ (Heap.get?_push_of_some _ (Heap.get?_push_of_some _ (Heap.get?_push_size _ rfl)))
  have g1 : (xH5 s.heap l1 l2).get? s.heap.objs.size = some _ := Heap.get?_push_of_some _ (Heap.get?_push_of_some _ (Heap.get?_push_of_some _ (Heap.get?_push_of_some _ (Heap.get?_push_size _ rfl))))
  show _ ∧ _
  rw [z2, z3, z4] at g5
  rw [z1, z2] at g3
  rw [z3] at g4
  rw [z1] at g2
  rw [z4]
  exact ⟨⟨_, g5, rfl⟩, h _ ⟨g5, g3, ⟨_, _, g4⟩, ⟨_, g1, rfl, rfl⟩, ⟨_, g2, rfl, rfl⟩⟩ fun c o x => Heap.get?_push_of_some _ (Heap.get?_push_of_some _ (Heap.get?_push_of_some _ (Heap.get?_push_of_some _ (Heap.get?_push_of_some _ x))))⟩
end
def iZipX (K : PySem.W.Frag) (ta : TA) : TI := fun σ H R => ta σ H fun vs H1 => ∃ a b xs ys, vs = [.ref a, .ref b] ∧ SqL K H1 a xs ∧ SqT K H1 b ys ∧ R (ItzX K a b) H1
theorem pi_zipX {X : Cx} {e e2 : Expr} {ta : TA} {p pos tpos : Pos} {elts : List Expr} {kk : Nat} (hg : Gl X "zip") (hm : X.mg "zip" = none) (ha : PA X [e, e2] ta)
    (hs : starEach [e, e2] X.env = (false, eval e X.env) :: starEach [e2] X.env := by rfl) (hpl : (backTo pos (starEach [e2] X.env)).any (·.1) = false := by rfl) :
    PI X (.Tuple elts kk tpos) (.Call (.Name "zip" p) [e, e2] [] pos) (iZipX X.K ta) := by
  refine ⟨fun pins s σ H R I h => ?_⟩
  refine Call_ (ld_blt I hg hm PyProof.Rows.boot_zip (PyProof.Rows.callWith_type1 (thn (ha.run pos pins s σ H _ I h) fun us s1 ⟨vs, H1, I1, r1, q1⟩ => ?_) hs hpl))
  obtain ⟨a, b, xs, ys, ex, hqx, hqy, q⟩ := q1
  subst ex
  cases r1 with
  | cons r rr =>
    cases rr with
    | cons r' rr =>
      cases rr
      cases r
      cases r'
      have fresh5 : ∀ c, c ∈ [s1.heap.objs.size + 4, s1.heap.objs.size + 2, s1.heap.objs.size + 3, s1.heap.objs.size, s1.heap.objs.size + 1] → FpOk X pins H1 c := fun c hcm => by
        have e' : c = s1.heap.objs.size + 4 ∨ c = s1.heap.objs.size + 2 ∨ c = s1.heap.objs.size + 3 ∨ c = s1.heap.objs.size ∨ c = s1.heap.objs.size + 1 := by simpa using hcm
        have hle : s1.heap.objs.size ≤ c := by
          rcases e' with z | z | z | z | z <;> rw [z]
          · exact Nat.le_add_right _ _
          · exact Nat.le_add_right _ _
          · exact Nat.le_add_right _ _
          · exact Nat.le_refl _
          · exact Nat.le_add_right _ _
        exact I1.fpOk hle (I1.hok.fresh hle)
      obtain ⟨its, rv, p1, _⟩ := I1.list hqx
      obtain ⟨its2, rv2, p2, _⟩ := I1.tuple hqy
      obtain ⟨o2, ho2, _⟩ := id p2
      refine call_zipX p1.isList (show s1.heap.IsTuple b its2.toArray from p2) fun h' st hk => wpAny_pyIter_zip st.1 ?_
      exact ⟨s1.heap.objs.size + 4, [s1.heap.objs.size + 4, s1.heap.objs.size + 2, s1.heap.objs.size + 3, s1.heap.objs.size, s1.heap.objs.size + 1], _, _, H1, rfl, I1.kept (t' := s1.toks) hk, turn_zipX (PySem.W.ktu_apart s1.heap.objs.size a b p1.lt (Heap.lt_size ho2)), st, fresh5, q⟩
/-- a comprehension over zip of a list and a tuple of one length -/
theorem lc_zipX {K : PySem.W.Frag} {a b : Addr} {xs ys : List V} {g : TG} {tt : TT} {te : TE} {vs : List Nat} {σ : L2.St} {H1 : Hp} {D : Addr} {Qd : Hp → Prop} (hl : xs.length = ys.length) (Pv : Nat → Hp → Prop) (h0 : Pv 0 (upd H1 D (.lst []))) (hq : ∀ i H, i ≤ xs.length → Pv i H → SqL K H a xs ∧ SqT K H b ys)
    (hs : ∀ (i : Nat) (x y : V) (T : Addr) (H : Hp), xs[i]? = some x → ys[i]? = some y → Pv i H → H T = none → g (.ref T) (wipe σ vs) (upd H T (.tup [x, y])) fun σ2 H2 => wipe σ2 vs = wipe σ vs ∧ tt σ2 H2 fun b H3 =>
      if b = true then te σ2 H3 fun y H4 => ∃ acc, H4 D = some (.lst acc) ∧ acc.length < sizeLine ∧ Pv (i + 1) (upd H4 D (.lst (acc ++ [y]))) else Pv (i + 1) H3) (hd : ∀ H, Pv xs.length H → Qd H) :
    ∃ W : Nat → Nat → Hp → Prop, (∃ m, W 0 m (upd H1 D (.lst []))) ∧ ∀ i m H, W i m H →
      ((ItzX K a b).stop i H ∧ Qd H) ∨ ((ItzX K a b).go i H ∧ ∃ Nx : Hp → Prop, (∀ H', Nx H' → ∃ m', m' < m ∧ W (i + 1) m' H') ∧ ∀ x H', (ItzX K a b).yld i H x H' → g x (wipe σ vs) H' fun σ2 H2 => wipe σ2 vs = wipe σ vs ∧ tt σ2 H2 fun b H3 =>
        if b = true then te σ2 H3 fun y H4 => ∃ acc, H4 D = some (.lst acc) ∧ acc.length < sizeLine ∧ Nx (upd H4 D (.lst (acc ++ [y]))) else Nx H3) := by
  refine ⟨fun i m H => m = xs.length - i ∧ i ≤ xs.length ∧ Pv i H, ⟨xs.length, by simp, Nat.zero_le _, h0⟩, ?_⟩
  rintro i m H ⟨rfl, hi, p⟩
  obtain ⟨qx, qy⟩ := hq i H hi p
  by_cases hlt : i < xs.length
  · have hx : xs[i]? = some xs[i] := List.getElem?_eq_getElem hlt
    have hy : ys[i]? = some ys[i] := List.getElem?_eq_getElem (by omega)
    refine .inr ⟨⟨xs, ys, _, _, qx, qy, hx, hy⟩, Pv (i + 1), fun H' p' => ⟨xs.length - (i + 1), by omega, rfl, hlt, p'⟩, fun v H' y => ?_⟩
    obtain ⟨T, x', y', rfl, hT, rfl, f1, f2⟩ := y
    exact hs i x' y' T H (f1 xs qx) (f2 ys qy) p hT
  · have e : i = xs.length := by omega
    subst e
    exact .inl ⟨⟨xs, ys, qx, qy, hl, rfl⟩, hd H p⟩
end ZipX

set_option Elab.async false
set_option linter.all false
set_option maxRecDepth 100000
/-! x *= n for ints -/
namespace AugM
open PySem PySem.Spec PyProof.Rows L2 MyR
variable {X : Cx}
theorem ip_mulW : PIp X .Mult (fun x y H Q => ∃ i j, x = .int i ∧ y = .int j ∧ CMulW i j ∧ Q (.int (i * j)) H) := by
  intro pins s σ H x y v u Q I r1 r2 h
  obtain ⟨i, j, e1, e2, hc, q⟩ := h
  subst e1; subst e2
  obtain ⟨t, rfl⟩ := r1
  obtain ⟨t', rfl⟩ := r2
  exact PyProof.Rows.imul_int ⟨.int _, H, I.tok _, ⟨_, rfl⟩, q⟩ hc.ok
end AugM

set_option Elab.async false
set_option linter.all false
set_option maxRecDepth 100000
set_option maxHeartbeats 2000000
/-! l.count(x) of data, sorted(set) of pairs of ints -/
namespace TupC
open PySem PySem.Spec PyProof.Rows L2
section
variable {X : Cx}
end
section
variable {P : Program} {w : World} {A : Around} {E : Value → Shared → Prop} {s : Shared}
end
section
variable {X : Cx}
end
end TupC

set_option Elab.async false
set_option linter.all false
set_option maxRecDepth 100000
/-! max(t) of a tuple of ints -/
namespace MaxT
open PySem PySem.Spec PyProof.Rows L2
section
variable {prog : Program} {w : World} {A : Around} {E : Value → Shared → Prop} {s : Shared}
end
section
variable {X : Cx}
end
end MaxT

set_option Elab.async false
set_option linter.all false
set_option maxRecDepth 100000
set_option maxHeartbeats 2000000
/-! // by an int of any size, where the quotient is not too great: fewer than 4500 bits -/
namespace FDivQ
open PySem PySem.Spec PyProof.Rows L2
theorem noPylong_quot {x y : Int} (h : x.natAbs.log2 ≤ y.natAbs.log2 + 4470) : Builtin.divisionGoesByPylong x y = false := by
  show (decide ((if y == 0 then 0 else y.natAbs.log2 / 30 + 1) > 300) && decide ((if x == 0 then 0 else x.natAbs.log2 / 30 + 1) > (if y == 0 then 0 else y.natAbs.log2 / 30 + 1) + 150)) = false
  by_cases hy : (y == 0) = true
  · rw [if_pos hy]
    rfl
  · rw [if_neg hy]
    by_cases hx : (x == 0) = true
    · rw [if_pos hx]
      simp
    · rw [if_neg hx]
      have : ¬ (x.natAbs.log2 / 30 + 1 > y.natAbs.log2 / 30 + 1 + 150) := by omega
      rw [decide_eq_false this, Bool.and_false]
/-- a divisor other than 0 of fewer than 9000 bits, or a quotient of fewer than some 4470 -/
def CDivQ (i j : Int) : Prop := j ≠ 0 ∧ (j.natAbs.log2 < 9000 ∨ i.natAbs.log2 ≤ j.natAbs.log2 + 4470)
theorem op_fdivQ {X : Cx} : OpR X (binaryOp .FloorDiv) (rI CDivQ fun i j => .int (i.fdiv j)) := opI fun i j _ _ _ _ _ hc q =>
  floordiv_int hc.1 q (.inl (hc.2.elim PyProof.noPylong_of_log2 noPylong_quot))
/-- an exact quotient below 2 ^ 4470 -/
theorem CDivQ.exact {i j q : Int} (hj : j ≠ 0) (e : i = q * j) (hq : q.natAbs < 2 ^ 4470) : CDivQ i j := by
  refine ⟨hj, .inr ?_⟩
  by_cases h0 : i.natAbs = 0
  · rw [h0, Nat.log2_zero]
    exact Nat.zero_le _
  · have h1 : j.natAbs ≠ 0 := by omega
    have h2 : i.natAbs < 2 ^ (4470 + (j.natAbs.log2 + 1)) := by
      rw [e, Int.natAbs_mul, Nat.pow_add]
      exact Nat.mul_lt_mul'' hq Nat.lt_log2_self
    have := (Nat.log2_lt h0).mpr h2
    omega
end FDivQ

set_option Elab.async false
set_option linter.all false
/-! list(xs) of a list or a tuple, the fragment named (for comprehensions) -/
namespace ListOf
open PySem PySem.Spec PyProof.Rows L2
def rListOf (K : PySem.W.Frag) : List V → Hp → VK → Prop := fun xs H Q => ∃ p ys, xs = [V.ref p] ∧ (SqL K H p ys ∨ SqT K H p ys) ∧ ∀ l, H l = none → Q (.ref l) (upd H l (.lst ys))
theorem call_list_ofK {X : Cx} {K : PySem.W.Frag} (e : X.K = K) : CallR X (.type "list") (rListOf K) := by
  subst e
  exact call_list_of
end ListOf

set_option Elab.async false
set_option linter.all false
set_option maxRecDepth 100000
set_option maxHeartbeats 2000000
/-! a module's constant that is a tuple of ints and strings -/
namespace StatV
open PySem PySem.Spec PyProof.Rows L2 He HookG
def valB : V → Value → Bool
  | .int i, .int j _ => decide (i = j)
  | .str a, .str b _ => decide (a = b)
  | _, _ => false
theorem valB_ok : ∀ {x : V} {u : Value}, valB x u = true → RelV x u
  | .int i, .int j t, h => by
    have e : i = j := of_decide_eq_true h
    subst e
    exact ⟨t, rfl⟩
  | .str a, .str b t, h => by
    have e : a = b := of_decide_eq_true h
    subst e
    exact ⟨t, rfl⟩
def valsB : List V → List Value → Bool
  | [], [] => true
  | x :: l, u :: us => valB x u && valsB l us
  | _, _ => false
theorem valsB_ok : ∀ {l : List V} {us : List Value}, valsB l us = true → Vals l us
  | [], [], _ => .nil
  | x :: l, u :: us, h => by
    obtain ⟨h1, h2⟩ := ba (show (valB x u && valsB l us) = true from h)
    exact .cons (valB_ok h1) (valsB_ok h2)
def tupB (K : PySem.W.Frag) (x : Str) (l : List V) : Bool := eqO (PySem.W.nsIn K mainGlobals x) (some (some (.ref (ga K x)))) && (match K.lookup (ga K x) with
  | some ⟨.type "tuple", _, .seq its _, _⟩ => valsB l its.toList && decide (its.size ≤ 1000)
  | _ => false)
/-- x is a tuple of these -/
structure TpV (K : PySem.W.Frag) (mg : Str → Option Value) (x : Str) (l : List V) (a : Addr) : Prop where
  g : mg x = some (.ref a)
  sq : ∀ H : Hp, SqT K H a l
theorem tupB_ok {K : PySem.W.Frag} {h : Heap} {mg : Str → Option Value} {x : Str} {l : List V} (X : K.In h) (G : h.Ns mainGlobals mg) (c : tupB K x l = true) : TpV K mg x l (ga K x) := by
  obtain ⟨c1, c2⟩ := ba c
  refine ⟨PySem.W.mg_of X G (eqO_ok c1), fun H => ?_⟩
  split at c2
  · rename_i od its n sl ho
    obtain ⟨c3, c4⟩ := ba c2
    have hz : its.size ≤ 1000 := of_decide_eq_true c4
    exact .inr ⟨_, its, n, ho, rfl, rfl, by rw [sizeLine_eq]; omega, valsB_ok c3⟩
  · cases c2
end StatV

set_option Elab.async false
set_option linter.all false
/-! linear algebra over the integers, up to factors: spans, independence, numbers of rows -/
namespace LA
/-- sums -/
def S : Nat → (Nat → Int) → Int
  | 0, _ => 0
  | n + 1, f => S n f + f n
theorem S_congr {f g : Nat → Int} : ∀ {n : Nat}, (∀ i, i < n → f i = g i) → S n f = S n g
  | 0, _ => rfl
  | n + 1, h => by
    show S n f + f n = S n g + g n
    rw [S_congr fun i hi => h i (Nat.lt_succ_of_lt hi), h n (Nat.lt_succ_self n)]
theorem S_zero {f : Nat → Int} {n : Nat} (h : ∀ i, i < n → f i = 0) : S n f = 0 := by
  induction n with
  | zero => rfl
  | succ n ih =>
    show S n f + f n = 0
    rw [ih fun i hi => h i (Nat.lt_succ_of_lt hi), h n (Nat.lt_succ_self n)]
    rfl
theorem S_add (f g : Nat → Int) : ∀ n, S n (fun i => f i + g i) = S n f + S n g
  | 0 => rfl
  | n + 1 => by
    show S n _ + (f n + g n) = (S n f + f n) + (S n g + g n)
    rw [S_add f g n]
    omega
theorem S_mul (c : Int) (f : Nat → Int) : ∀ n, S n (fun i => c * f i) = c * S n f
  | 0 => (Int.mul_zero c).symm
  | n + 1 => by
    show S n _ + c * f n = c * (S n f + f n)
    rw [S_mul c f n, Int.mul_add]
theorem S_mulr (c : Int) (f : Nat → Int) (n : Nat) : S n (fun i => f i * c) = S n f * c := by
  rw [Int.mul_comm (S n f) c, ← S_mul c f n]
  exact S_congr fun i _ => Int.mul_comm _ _
theorem S_swap (f : Nat → Nat → Int) (m : Nat) : ∀ n, S n (fun i => S m (fun k => f i k)) = S m (fun k => S n (fun i => f i k))
  | 0 => (S_zero fun i _ => rfl).symm
  | n + 1 => by
    show S n _ + S m _ = _
    rw [S_swap f m n, ← S_add]
    rfl
/-- one alone -/
theorem S_one {f : Nat → Int} {n p : Nat} (hp : p < n) (h : ∀ i, i < n → i ≠ p → f i = 0) : S n f = f p := by
  induction n with
  | zero => exact absurd hp (Nat.not_lt_zero _)
  | succ n ih =>
    show S n f + f n = f p
    by_cases c : p = n
    · subst c
      rw [S_zero fun i hi => h i (Nat.lt_succ_of_lt hi) (Nat.ne_of_lt hi), Int.zero_add]
    · rw [ih (by omega) fun i hi hne => h i (Nat.lt_succ_of_lt hi) hne, h n (Nat.lt_succ_self n) (Ne.symm c), Int.add_zero]
/-- all but one: i, or i + 1 from p on -/
def sk (p i : Nat) : Nat := if i < p then i else i + 1
theorem S_skip (f : Nat → Int) (p : Nat) : ∀ n, p ≤ n → S (n + 1) f = f p + S n fun i => f (sk p i)
  | 0, h => by
    have : p = 0 := by omega
    subst this
    show 0 + f 0 = f 0 + 0
    omega
  | n + 1, h => by
    by_cases c : p = n + 1
    · subst c
      show S (n + 1) f + f (n + 1) = _
      rw [Int.add_comm]
      congr 1
      exact S_congr fun i hi => by
        unfold sk
        rw [if_pos hi]
    · show S (n + 1) f + f (n + 1) = f p + (S n (fun i => f (sk p i)) + f (sk p n))
      rw [S_skip f p n (by omega), show sk p n = n + 1 by unfold sk; rw [if_neg (by omega)]]
      omega
/-- more vectors than columns: they hang on one another -/
theorem dep : ∀ (m n : Nat) (x : Nat → Nat → Int), m < n → ∃ y : Nat → Int, (∃ i, i < n ∧ y i ≠ 0) ∧ ∀ j, j < m → S n (fun i => y i * x i j) = 0
  | 0, n, x, h => ⟨fun _ => 1, ⟨0, h, by decide⟩, fun j hj => absurd hj (Nat.not_lt_zero _)⟩
  | m + 1, n, x, h => by
    by_cases c : ∀ i, i < n → x i m = 0
    · obtain ⟨y, hy, he⟩ := dep m n x (by omega)
      refine ⟨y, hy, fun j hj => ?_⟩
      by_cases e : j = m
      · subst e
        exact S_zero fun i hi => by rw [c i hi, Int.mul_zero]
      · exact he j (by omega)
    · obtain ⟨p, hp⟩ := Classical.not_forall.mp c
      obtain ⟨hpn, hp0⟩ : p < n ∧ x p m ≠ 0 := ⟨Classical.byContradiction fun z => hp fun a => absurd a z, fun z => hp fun _ => z⟩
      obtain ⟨n', rfl⟩ : ∃ n', n = n' + 1 := ⟨n - 1, by omega⟩
      obtain ⟨y, ⟨i0, hi0, hy0⟩, he⟩ := dep m n' (fun i j => x p m * x (sk p i) j - x (sk p i) m * x p j) (by omega)
      have back : ∀ i, (if sk p i < p then sk p i else sk p i - 1) = i ∧ sk p i ≠ p := fun i => by
        unfold sk
        by_cases z : i < p
        · rw [if_pos z, if_pos z]
          exact ⟨rfl, by omega⟩
        · rw [if_neg z, if_neg (by omega)]
          exact ⟨by omega, by omega⟩
      let Y : Nat → Int := fun k => if k = p then - S n' (fun i => y i * x (sk p i) m) else x p m * y (if k < p then k else k - 1)
      have Yp : Y p = - S n' (fun i => y i * x (sk p i) m) := if_pos rfl
      have Ys : ∀ i, Y (sk p i) = x p m * y i := fun i => by
        show (if sk p i = p then _ else _) = _
        rw [if_neg (back i).2, (back i).1]
      refine ⟨Y, ⟨sk p i0, by unfold sk; split <;> omega, by rw [Ys]; exact Int.mul_ne_zero hp0 hy0⟩, fun j hj => ?_⟩
      have e0 : S n' (fun i => Y (sk p i) * x (sk p i) j) = S n' (fun i => x p m * y i * x (sk p i) j) := S_congr fun i _ => by rw [Ys i]
      rw [S_skip _ p n' (by omega), e0]
      show Y p * x p j + _ = 0
      rw [Yp]
      have e1 : S n' (fun i => x p m * y i * x (sk p i) j) = S n' (fun i => y i * (x p m * x (sk p i) j - x (sk p i) m * x p j)) + S n' (fun i => y i * x (sk p i) m) * x p j := by
        rw [← S_mulr, ← S_add]
        exact S_congr fun i _ => by grind
      rw [e1]
      by_cases e : j = m
      · subst e
        rw [S_zero (f := fun i => y i * (x p j * x (sk p i) j - x (sk p i) j * x p j)) fun i _ => by rw [Int.mul_comm (x p j), Int.sub_self, Int.mul_zero]]
        grind
      · rw [he j (by omega)]
        grind
/-- v, times a number other than 0, is a sum of multiples of m rows -/
def Sp (w m : Nat) (B : Nat → Nat → Int) (v : Nat → Int) : Prop := ∃ c : Int, c ≠ 0 ∧ ∃ a : Nat → Int, ∀ j, j < w → c * v j = S m (fun k => a k * B k j)
def Ind (w n : Nat) (A : Nat → Nat → Int) : Prop := ∀ a : Nat → Int, (∀ j, j < w → S n (fun i => a i * A i j) = 0) → ∀ i, i < n → a i = 0
/-- independent rows are not more than rows whose span holds them -/
theorem steinitz {w n m : Nat} {A B : Nat → Nat → Int} (hI : Ind w n A) (h : ∀ i, i < n → Sp w m B (A i)) : n ≤ m := by
  by_cases c : n ≤ m
  · exact c
  · exfalso
    have h' : ∀ i, ∃ c : Int, i < n → c ≠ 0 ∧ ∃ a : Nat → Int, ∀ j, j < w → c * A i j = S m (fun k => a k * B k j) := fun i => by
      by_cases hi : i < n
      · obtain ⟨c, hc, a, ha⟩ := h i hi
        exact ⟨c, fun _ => ⟨hc, a, ha⟩⟩
      · exact ⟨0, fun z => absurd z hi⟩
    obtain ⟨C, hC⟩ := Classical.axiomOfChoice h'
    have h2 : ∀ i, ∃ a : Nat → Int, i < n → ∀ j, j < w → C i * A i j = S m (fun k => a k * B k j) := fun i => by
      by_cases hi : i < n
      · obtain ⟨_, a, ha⟩ := hC i hi
        exact ⟨a, fun _ => ha⟩
      · exact ⟨fun _ => 0, fun z => absurd z hi⟩
    obtain ⟨a, ha⟩ := Classical.axiomOfChoice h2
    obtain ⟨y, ⟨i0, hi0, hy⟩, he⟩ := dep m n a (by omega)
    have z := hI (fun i => y i * C i) (fun j hj => by
      have e1 : S n (fun i => y i * C i * A i j) = S n (fun i => S m (fun k => y i * a i k * B k j)) := S_congr fun i hi => by
        rw [Int.mul_assoc, ha i hi j hj, ← S_mul]
        exact S_congr fun k _ => by rw [Int.mul_assoc]
      rw [e1, S_swap]
      exact S_zero fun k hk => by rw [S_mulr, he k hk, Int.zero_mul]) i0 hi0
    exact Int.mul_ne_zero hy (hC i0 hi0).1 z
theorem Sp.own {w m : Nat} {B : Nat → Nat → Int} {k : Nat} (hk : k < m) : Sp w m B (B k) := ⟨1, by decide, fun i => if i = k then 1 else 0, fun j _ => by
  rw [Int.one_mul, S_one hk fun i _ hne => by
    show (if i = k then (1 : Int) else 0) * B i j = 0
    rw [if_neg hne, Int.zero_mul]]
  show B k j = (if k = k then (1 : Int) else 0) * B k j
  rw [if_pos rfl, Int.one_mul]⟩
theorem Sp.zero {w m : Nat} {B : Nat → Nat → Int} {v : Nat → Int} (h : ∀ j, j < w → v j = 0) : Sp w m B v := ⟨1, by decide, fun _ => 0, fun j hj => by
  rw [h j hj, S_zero fun i _ => Int.zero_mul _]
  rfl⟩
theorem Sp.lin {w m : Nat} {B : Nat → Nat → Int} {u v : Nat → Int} (α β : Int) (h : Sp w m B u) (g : Sp w m B v) : Sp w m B fun j => α * u j + β * v j := by
  obtain ⟨c, hc, a, ha⟩ := h
  obtain ⟨d, hd, b, hb⟩ := g
  refine ⟨c * d, Int.mul_ne_zero hc hd, fun k => α * d * a k + β * c * b k, fun j hj => ?_⟩
  have e : S m (fun k => (α * d * a k + β * c * b k) * B k j) = α * d * S m (fun k => a k * B k j) + β * c * S m (fun k => b k * B k j) := by
    rw [← S_mul, ← S_mul, ← S_add]
    exact S_congr fun k _ => by grind
  rw [e, ← ha j hj, ← hb j hj]
  grind
theorem Sp.div {w m : Nat} {B : Nat → Nat → Int} {u v : Nat → Int} {c : Int} (hc : c ≠ 0) (h : Sp w m B u) (e : ∀ j, j < w → c * v j = u j) : Sp w m B v := by
  obtain ⟨d, hd, a, ha⟩ := h
  exact ⟨d * c, Int.mul_ne_zero hd hc, a, fun j hj => by rw [Int.mul_assoc, e j hj]; exact ha j hj⟩
theorem Sp.sum {w m' : Nat} {B B' : Nat → Nat → Int} (a : Nat → Int) : ∀ {m : Nat}, (∀ k, k < m → Sp w m' B' (B k)) → Sp w m' B' fun j => S m (fun k => a k * B k j)
  | 0, _ => .zero fun j _ => rfl
  | m + 1, h => by
    have q := Sp.lin 1 (a m) (Sp.sum a fun k hk => h k (Nat.lt_succ_of_lt hk)) (h m (Nat.lt_succ_self m))
    exact .div (c := 1) (by decide) q fun j _ => by rw [Int.one_mul, Int.one_mul]; rfl
/-- what is in the span of rows that are in a span -/
theorem Sp.trans {w m m' : Nat} {B B' : Nat → Nat → Int} {v : Nat → Int} (h : Sp w m B v) (g : ∀ k, k < m → Sp w m' B' (B k)) : Sp w m' B' v := by
  obtain ⟨c, hc, a, ha⟩ := h
  exact .div hc (Sp.sum a g) ha
/-- one factor for all -/
theorem common {w r : Nat} {E A : Nat → Nat → Int} : ∀ {n : Nat}, (∀ i, i < n → Sp w r E (A i)) → ∃ c : Int, c ≠ 0 ∧ ∃ a : Nat → Nat → Int, ∀ i, i < n → ∀ j, j < w → c * A i j = S r (fun k => a i k * E k j)
  | 0, _ => ⟨1, by decide, fun _ _ => 0, fun i hi => absurd hi (Nat.not_lt_zero _)⟩
  | n + 1, h => by
    obtain ⟨c, hc, a, ha⟩ := common (n := n) fun i hi => h i (Nat.lt_succ_of_lt hi)
    obtain ⟨d, hd, b, hb⟩ := h n (Nat.lt_succ_self n)
    refine ⟨c * d, Int.mul_ne_zero hc hd, fun i k => if i = n then c * b k else d * a i k, fun i hi j hj => ?_⟩
    by_cases e : i = n
    · subst e
      rw [S_congr (g := fun k => c * (b k * E k j)) fun k _ => by
        show (if i = i then c * b k else d * a i k) * E k j = _
        rw [if_pos rfl, Int.mul_assoc], S_mul, ← hb j hj, Int.mul_assoc]
    · rw [S_congr (g := fun k => d * (a i k * E k j)) fun k _ => by
        show (if i = n then c * b k else d * a i k) * E k j = _
        rw [if_neg e, Int.mul_assoc], S_mul, ← ha i (by omega) j hj, Int.mul_comm c d, Int.mul_assoc]
/-- rows with leads: E i is the only one that is not 0 at its lead -/
structure Ech (w r : Nat) (E : Nat → Nat → Int) (lead : Nat → Nat) : Prop where
  lt : ∀ i, i < r → lead i < w
  nz : ∀ i, i < r → E i (lead i) ≠ 0
  z : ∀ i k, i < r → k < r → k ≠ i → E k (lead i) = 0
theorem Ech.ind {w r : Nat} {E : Nat → Nat → Int} {lead : Nat → Nat} (h : Ech w r E lead) : Ind w r E := fun a ha i hi => by
  have e := ha (lead i) (h.lt i hi)
  rw [S_one hi fun k hk hne => by rw [h.z i k hi hk hne, Int.mul_zero]] at e
  rcases Int.mul_eq_zero.mp e with z | z
  · exact z
  · exact absurd z (h.nz i hi)
/-- the rows of A have the base E -/
structure Base (w n : Nat) (A : Nat → Nat → Int) (r : Nat) (E : Nat → Nat → Int) : Prop where
  ind : Ind w r E
  of : ∀ k, k < r → Sp w n A (E k)
  to : ∀ i, i < n → Sp w r E (A i)
theorem Base.same {w n r r' : Nat} {A E E' : Nat → Nat → Int} (h : Base w n A r E) (g : Base w n A r' E') : r = r' :=
  Nat.le_antisymm (steinitz h.ind fun k hk => (h.of k hk).trans g.to) (steinitz g.ind fun k hk => (g.of k hk).trans h.to)
/-- columns have no greater number -/
theorem Base.col {w n r r' : Nat} {A E E' : Nat → Nat → Int} (h : Base w n A r E) (g : Base n w (fun j i => A i j) r' E') : r' ≤ r := by
  obtain ⟨c, hc, a, ha⟩ := common h.to
  refine steinitz g.ind fun k hk => (g.of k hk).trans (B' := fun k i => a i k) fun j hj => ⟨c, hc, fun k => E k j, fun i hi => ?_⟩
  rw [ha i hi j hj]
  exact S_congr fun k _ => Int.mul_comm _ _
theorem Base.turned {w n r r' : Nat} {A E E' : Nat → Nat → Int} (h : Base w n A r E) (g : Base n w (fun j i => A i j) r' E') : r = r' :=
  Nat.le_antisymm (g.col h) (h.col g)
/-- rows that are sums of multiples of others -/
theorem Base.le {w n m r r' : Nat} {A B E E' : Nat → Nat → Int} (h : Base w n A r E) (g : Base w m B r' E') (s : ∀ i, i < n → Sp w m B (A i)) : r ≤ r' :=
  steinitz h.ind fun k hk => ((h.of k hk).trans s).trans g.to
theorem Base.ind_all {w n r : Nat} {A E : Nat → Nat → Int} (h : Base w n A r E) (hA : Ind w n A) : r = n :=
  Nat.le_antisymm (steinitz h.ind h.of) (steinitz hA h.to)
/-- what is 0 on rows is 0 on their span -/
theorem Sp.perp {w m : Nat} {B : Nat → Nat → Int} {v x : Nat → Int} (h : Sp w m B v) (hz : ∀ k, k < m → S w (fun j => x j * B k j) = 0) : S w (fun j => x j * v j) = 0 := by
  obtain ⟨c, hc, a, ha⟩ := h
  have e : c * S w (fun j => x j * v j) = 0 := by
    rw [← S_mul, S_congr (g := fun j => S m (fun k => a k * (x j * B k j))) fun j hj => by
      rw [← Int.mul_assoc, Int.mul_comm c, Int.mul_assoc, ha j hj, ← S_mul]
      exact S_congr fun k _ => by rw [← Int.mul_assoc, Int.mul_comm (x j), Int.mul_assoc], S_swap]
    exact S_zero fun k hk => by rw [S_mul, hz k hk, Int.mul_zero]
  exact (Int.mul_eq_zero.mp e).resolve_left hc
end LA

set_option Elab.async false
set_option linter.all false
/-! small solutions: more small rows than columns hang on one another by small factors -/
namespace LA
theorem pigeon : ∀ (N : Nat) (f : Nat → Nat), (∀ i, i < N + 1 → f i < N) → ∃ i j, i < j ∧ j < N + 1 ∧ f i = f j
  | 0, f, h => absurd (h 0 (Nat.lt_succ_self 0)) (Nat.not_lt_zero _)
  | N + 1, f, h => by
    by_cases c : ∃ i, i < N + 1 ∧ f i = f (N + 1)
    · obtain ⟨i, hi, e⟩ := c
      exact ⟨i, N + 1, hi, Nat.lt_succ_self _, e⟩
    · have ne : ∀ i, i < N + 1 → f i ≠ f (N + 1) := fun i hi e => c ⟨i, hi, e⟩
      have hl := h (N + 1) (Nat.lt_succ_self _)
      obtain ⟨i, j, hij, hj, e⟩ := pigeon N (fun i => if f i < f (N + 1) then f i else f i - 1) (fun i hi => by
        have h1 := ne i hi
        have h2 := h i (by omega)
        show (if f i < f (N + 1) then f i else f i - 1) < N
        split <;> omega)
      refine ⟨i, j, hij, by omega, ?_⟩
      have h1 := ne i (by omega)
      have h2 := ne j hj
      have e : (if f i < f (N + 1) then f i else f i - 1) = (if f j < f (N + 1) then f j else f j - 1) := e
      split at e <;> split at e <;> omega
/-- digits put together -/
def enc (b : Nat) : Nat → (Nat → Nat) → Nat
  | 0, _ => 0
  | n + 1, g => enc b n g + b ^ n * g n
theorem enc_lt {b : Nat} : ∀ {n : Nat} {g : Nat → Nat}, (∀ i, i < n → g i < b) → enc b n g < b ^ n
  | 0, g, _ => Nat.zero_lt_one
  | n + 1, g, h => by
    have h1 := enc_lt (n := n) fun i hi => h i (Nat.lt_succ_of_lt hi)
    have h2 := h n (Nat.lt_succ_self n)
    show enc b n g + b ^ n * g n < b ^ (n + 1)
    have h3 : b ^ n * (g n + 1) ≤ b ^ n * b := Nat.mul_le_mul_left _ h2
    have h4 : b ^ (n + 1) = b ^ n * b := rfl
    rw [Nat.mul_add, Nat.mul_one] at h3
    omega
theorem enc_inj {b : Nat} : ∀ {n : Nat} {f g : Nat → Nat}, (∀ i, i < n → f i < b) → (∀ i, i < n → g i < b) → enc b n f = enc b n g → ∀ i, i < n → f i = g i
  | 0, _, _, _, _, _ => fun i hi => absurd hi (Nat.not_lt_zero _)
  | n + 1, f, g, hf, hg, e => by
    have h1 := enc_lt (n := n) fun i hi => hf i (Nat.lt_succ_of_lt hi)
    have h2 := enc_lt (n := n) fun i hi => hg i (Nat.lt_succ_of_lt hi)
    have e : enc b n f + b ^ n * f n = enc b n g + b ^ n * g n := e
    have p : 0 < b ^ n := by omega
    have e1 : enc b n f = enc b n g := by
      have q : (enc b n f + b ^ n * f n) % b ^ n = (enc b n g + b ^ n * g n) % b ^ n := by rw [e]
      rwa [Nat.add_mul_mod_self_left, Nat.add_mul_mod_self_left, Nat.mod_eq_of_lt h1, Nat.mod_eq_of_lt h2] at q
    have e2 : f n = g n := Nat.eq_of_mul_eq_mul_left p (by omega)
    intro i hi
    by_cases c : i = n
    · rw [c]; exact e2
    · exact enc_inj (fun i hi => hf i (Nat.lt_succ_of_lt hi)) (fun i hi => hg i (Nat.lt_succ_of_lt hi)) e1 i (by omega)
theorem enc_dig (b t : Nat) : ∀ n, enc b n (fun i => t / b ^ i % b) = t % b ^ n
  | 0 => by
    show 0 = t % 1
    rw [Nat.mod_one]
  | n + 1 => by
    show enc b n _ + b ^ n * (t / b ^ n % b) = t % (b ^ n * b)
    rw [enc_dig b t n, Nat.mod_mul]
theorem S_abs {f : Nat → Int} {n : Nat} {B : Nat} (h : ∀ i, i < n → (f i).natAbs ≤ B) : (S n f).natAbs ≤ n * B := by
  induction n with
  | zero => exact Nat.zero_le _
  | succ n ih =>
    have h1 := ih fun i hi => h i (Nat.lt_succ_of_lt hi)
    have h2 := h n (Nat.lt_succ_self n)
    show (S n f + f n).natAbs ≤ (n + 1) * B
    have h3 := Int.natAbs_add_le (S n f) (f n)
    rw [Nat.succ_mul]
    omega
theorem siegel (m M : Nat) (x : Nat → Nat → Int) (hx : ∀ i, i < m + 1 → ∀ j, j < m → (x i j).natAbs ≤ M) :
    ∃ y : Nat → Int, (∃ i, i < m + 1 ∧ y i ≠ 0) ∧ (∀ i, (y i).natAbs ≤ (2 * (m + 1) * M + 1) ^ m) ∧ ∀ j, j < m → S (m + 1) (fun i => y i * x i j) = 0 := by
  generalize hY : (2 * (m + 1) * M + 1) ^ m = Y
  let d : Nat → Nat → Nat := fun t i => t / (Y + 1) ^ i % (Y + 1)
  have dl : ∀ t i, d t i < Y + 1 := fun t i => Nat.mod_lt _ (Nat.succ_pos _)
  let s : Nat → Nat → Int := fun t j => S (m + 1) fun i => (d t i : Int) * x i j
  have sb : ∀ t j, j < m → (s t j).natAbs ≤ (m + 1) * (Y * M) := fun t j hj => S_abs fun i hi => by
    rw [Int.natAbs_mul, Int.natAbs_natCast]
    exact Nat.mul_le_mul (Nat.le_of_lt_succ (dl t i)) (hx i hi j hj)
  generalize hC : (m + 1) * (Y * M) = C at sb
  let g : Nat → Nat → Nat := fun t j => (s t j + C).toNat
  have gl : ∀ t j, j < m → g t j < 2 * C + 1 := fun t j hj => by
    have := sb t j hj
    show (s t j + C).toNat < _
    omega
  have hW : (2 * C + 1) ^ m < (Y + 1) ^ (m + 1) := by
    have h1 : 2 * C + 1 ≤ (2 * (m + 1) * M + 1) * (Y + 1) := by
      have : 2 * C = 2 * (m + 1) * M * Y := by
        rw [← hC, Nat.mul_comm Y M, ← Nat.mul_assoc, ← Nat.mul_assoc]
      rw [this]
      generalize 2 * (m + 1) * M = q
      rw [Nat.add_mul, Nat.mul_add, Nat.one_mul, Nat.mul_one]
      omega
    have h2 := Nat.pow_le_pow_left h1 m
    rw [Nat.mul_pow, hY] at h2
    have h3 : 0 < (Y + 1) ^ m := Nat.pow_pos (Nat.succ_pos _)
    have h4 : (Y + 1) ^ (m + 1) = (Y + 1) ^ m * (Y + 1) := rfl
    rw [h4, Nat.mul_add, Nat.mul_one, Nat.mul_comm _ Y]
    omega
  obtain ⟨t, t', ht, ht', e⟩ := pigeon ((2 * C + 1) ^ m) (fun t => enc (2 * C + 1) m (g t)) fun t _ => enc_lt (gl t)
  have eg := enc_inj (gl t) (gl t') e
  refine ⟨fun i => (d t i : Int) - d t' i, ?_, fun i => ?_, fun j hj => ?_⟩
  · refine Classical.byContradiction fun c => ?_
    have same : ∀ i, i < m + 1 → d t i = d t' i := fun i hi => Classical.byContradiction fun z => c ⟨i, hi, by
      show (d t i : Int) - d t' i ≠ 0
      omega⟩
    have e1 := enc_dig (Y + 1) t (m + 1)
    have e2 := enc_dig (Y + 1) t' (m + 1)
    rw [Nat.mod_eq_of_lt (by omega)] at e1 e2
    have e3 : ∀ n, n ≤ m + 1 → enc (Y + 1) n (d t) = enc (Y + 1) n (d t') := fun n => by
      induction n with
      | zero => exact fun _ => rfl
      | succ n ih =>
        intro hn
        show enc (Y + 1) n (d t) + _ * d t n = enc (Y + 1) n (d t') + _ * d t' n
        rw [ih (by omega), same n (by omega)]
    have := e3 (m + 1) (Nat.le_refl _)
    have e1 : enc (Y + 1) (m + 1) (d t) = t := e1
    have e2 : enc (Y + 1) (m + 1) (d t') = t' := e2
    omega
  · have h1 := dl t i
    have h2 := dl t' i
    show ((d t i : Int) - d t' i).natAbs ≤ Y
    omega
  · have e1 : s t j = s t' j := by
      have q := eg j hj
      have h1 := sb t j hj
      have h2 := sb t' j hj
      have q : (s t j + C).toNat = (s t' j + C).toNat := q
      omega
    have e2 : S (m + 1) (fun i => ((d t i : Int) - d t' i) * x i j) = s t j + (-1) * s t' j := by
      show _ = S (m + 1) (fun i => (d t i : Int) * x i j) + (-1) * S (m + 1) (fun i => (d t' i : Int) * x i j)
      rw [← S_mul, ← S_add]
      exact S_congr fun i _ => by grind
    rw [e2, e1]
    omega
end LA

set_option Elab.async false
set_option linter.all false
set_option maxRecDepth 100000
set_option maxHeartbeats 4000000
namespace K65
open PySem PySem.Spec PyProof.Rows L2 SlX OwnR OwnF
theorem hu64 {k : Nat} {A : Around} (hr : Room k A) : A.units + 64 < cLine := hr.units
theorem same_upd0 {H : Hp} {p : Addr} {o : HO} (h : H p = none) : Same H (upd H p o) := fun b x e => by
  rw [upd_ne (ne_of_none e h)]
  exact e
def topS (i : Nat) : Stmt := PySem.Challenge.pw_sourceforms_k65_whole_two_killers.main.body.getD i (.Pass ⟨0, 0, 0, 0⟩)
abbrev FnM (K : PySem.W.Frag) (x q : Str) (st : Stmt) (f : Addr) (fd : FuncData) : Prop := FunD K x q (defArgs st) (defBody st) (defScope st) [] [] f fd
abbrev FnP (K : PySem.W.Frag) (x : Str) (st : Stmt) (f : Addr) (fd : FuncData) : Prop := FunD K x x (defArgs st) (defBody st) (defScope st) [] [] f fd
abbrev s_is_whole : Stmt := topS 12
abbrev N_is_whole : List Str := ["value"]
theorem sc_is_whole : FnScope N_is_whole ["value"] (defScope s_is_whole) := ⟨rfl, rfl, rfl, by decide +kernel, rfl, by decide +kernel, by decide +kernel⟩
abbrev s_is_short : Stmt := topS 13
abbrev N_is_short : List Str := ["value"]
theorem sc_is_short : FnScope N_is_short ["value"] (defScope s_is_short) := ⟨rfl, rfl, rfl, by decide +kernel, rfl, by decide +kernel, by decide +kernel⟩
abbrev s_is_from : Stmt := topS 14
abbrev s_are_short : Stmt := topS 15
abbrev N_are_short : List Str := ["value", "entry"]
theorem sc_are_short : FnScope N_are_short ["value"] (defScope s_are_short) := ⟨rfl, rfl, rfl, by decide +kernel, rfl, by decide +kernel, by decide +kernel⟩
abbrev s_require_short : Stmt := topS 16
abbrev s_require_from : Stmt := topS 17
abbrev s_shared_of : Stmt := topS 18
abbrev N_shared_of : List Str := ["numbers", "found", "number"]
theorem sc_shared_of : FnScope N_shared_of ["numbers"] (defScope s_shared_of) := ⟨rfl, rfl, rfl, by decide +kernel, rfl, by decide +kernel, by decide +kernel⟩
abbrev s_first_of : Stmt := topS 19
abbrev N_first_of : List Str := ["numbers"]
theorem sc_first_of : FnScope N_first_of ["numbers"] (defScope s_first_of) := ⟨rfl, rfl, rfl, by decide +kernel, rfl, by decide +kernel, by decide +kernel⟩
abbrev s_primitive_of : Stmt := topS 20
abbrev N_primitive_of : List Str := ["numbers", "part", "number"]
theorem sc_primitive_of : FnScope N_primitive_of ["numbers"] (defScope s_primitive_of) := ⟨rfl, rfl, rfl, by decide +kernel, rfl, by decide +kernel, by decide +kernel⟩
abbrev s_factorial_of : Stmt := topS 21
abbrev N_factorial_of : List Str := ["number", "found", "factor"]
theorem sc_factorial_of : FnScope N_factorial_of ["number"] (defScope s_factorial_of) := ⟨rfl, rfl, rfl, by decide +kernel, rfl, by decide +kernel, by decide +kernel⟩
abbrev s_lots_of : Stmt := topS 22
abbrev N_lots_of : List Str := ["many", "few", "found", "at"]
theorem sc_lots_of : FnScope N_lots_of ["many", "few"] (defScope s_lots_of) := ⟨rfl, rfl, rfl, by decide +kernel, rfl, by decide +kernel, by decide +kernel⟩
abbrev s_less_head : Stmt := topS 24
abbrev N_less_head : List Str := ["row", "head", "place", "one", "other", "part", "found", "entry", "taken", "shared"]
theorem sc_less_head : FnScope N_less_head ["row", "head", "place"] (defScope s_less_head) := ⟨rfl, rfl, rfl, by decide +kernel, rfl, by decide +kernel, by decide +kernel⟩
abbrev s_echelon_rows : Stmt := topS 25
abbrev N_echelon_rows : List Str := ["rows", "width", "left", "found", "row", "place", "heads", "at", "head"]
theorem sc_echelon_rows : FnScope N_echelon_rows ["rows", "width"] (defScope s_echelon_rows) := ⟨rfl, rfl, rfl, by decide +kernel, rfl, by decide +kernel, by decide +kernel⟩
abbrev s_lead_of : Stmt := topS 26
abbrev N_lead_of : List Str := ["row", "at", "entry"]
theorem sc_lead_of : FnScope N_lead_of ["row"] (defScope s_lead_of) := ⟨rfl, rfl, rfl, by decide +kernel, rfl, by decide +kernel, by decide +kernel⟩
abbrev s_rank_of : Stmt := topS 27
abbrev N_rank_of : List Str := ["rows", "width"]
theorem sc_rank_of : FnScope N_rank_of ["rows", "width"] (defScope s_rank_of) := ⟨rfl, rfl, rfl, by decide +kernel, rfl, by decide +kernel, by decide +kernel⟩
abbrev s_kernel_rows : Stmt := topS 28
abbrev N_kernel_rows : List Str := ["rows", "width", "told", "found", "leads", "row", "whole", "lead", "free", "place", "one"]
theorem sc_kernel_rows : FnScope N_kernel_rows ["rows", "width"] (defScope s_kernel_rows) := ⟨rfl, rfl, rfl, by decide +kernel, rfl, by decide +kernel, by decide +kernel⟩
abbrev s_joined_entries : Stmt := topS 32
abbrev s_derived_in : Stmt := topS 35
abbrev N_derived_in : List Str := ["entries", "one", "other", "found", "turn", "at", "entry"]
theorem sc_derived_in : FnScope N_derived_in ["entries", "one", "other"] (defScope s_derived_in) := ⟨rfl, rfl, rfl, by decide +kernel, rfl, by decide +kernel, by decide +kernel⟩
abbrev s_is_zero_in : Stmt := topS 36
abbrev N_is_zero_in : List Str := ["entries"]
theorem sc_is_zero_in : FnScope N_is_zero_in ["entries"] (defScope s_is_zero_in) := ⟨rfl, rfl, rfl, by decide +kernel, rfl, by decide +kernel, by decide +kernel⟩
abbrev s_signed_content : Stmt := topS 37
abbrev N_signed_content : List Str := ["entries", "found", "sign", "at"]
theorem sc_signed_content : FnScope N_signed_content ["entries"] (defScope s_signed_content) := ⟨rfl, rfl, rfl, by decide +kernel, rfl, by decide +kernel, by decide +kernel⟩
abbrev s_primitive_in : Stmt := topS 38
abbrev N_primitive_in : List Str := ["entries", "part", "at"]
theorem sc_primitive_in : FnScope N_primitive_in ["entries"] (defScope s_primitive_in) := ⟨rfl, rfl, rfl, by decide +kernel, rfl, by decide +kernel, by decide +kernel⟩
abbrev s_first_index : Stmt := topS 39
abbrev N_first_index : List Str := ["entries"]
theorem sc_first_index : FnScope N_first_index ["entries"] (defScope s_first_index) := ⟨rfl, rfl, rfl, by decide +kernel, rfl, by decide +kernel, by decide +kernel⟩
abbrev s_quotient_in : Stmt := topS 40
abbrev N_quotient_in : List Str := ["one", "other", "many", "lead", "left", "found", "at", "times", "place", "entry"]
theorem sc_quotient_in : FnScope N_quotient_in ["one", "other"] (defScope s_quotient_in) := ⟨rfl, rfl, rfl, by decide +kernel, rfl, by decide +kernel, by decide +kernel⟩
abbrev s_are_entries : Stmt := topS 42
abbrev N_are_entries : List Str := ["value"]
theorem sc_are_entries : FnScope N_are_entries ["value"] (defScope s_are_entries) := ⟨rfl, rfl, rfl, by decide +kernel, rfl, by decide +kernel, by decide +kernel⟩
abbrev s_form_of : Stmt := topS 44
abbrev N_form_of : List Str := ["entries"]
theorem sc_form_of : FnScope N_form_of ["entries"] (defScope s_form_of) := ⟨rfl, rfl, rfl, by decide +kernel, rfl, by decide +kernel, by decide +kernel⟩
abbrev s_require_form : Stmt := topS 45
abbrev N_require_form : List Str := ["value"]
theorem sc_require_form : FnScope N_require_form ["value"] (defScope s_require_form) := ⟨rfl, rfl, rfl, by decide +kernel, rfl, by decide +kernel, by decide +kernel⟩
abbrev s_level_entries : Stmt := topS 50
abbrev N_level_entries : List Str := ["entries", "last", "at", "entry"]
theorem sc_level_entries : FnScope N_level_entries ["entries"] (defScope s_level_entries) := ⟨rfl, rfl, rfl, by decide +kernel, rfl, by decide +kernel, by decide +kernel⟩
abbrev s_level_rows : Stmt := topS 51
abbrev N_level_rows : List Str := ["entries", "degree", "told", "at"]
theorem sc_level_rows : FnScope N_level_rows ["entries", "degree"] (defScope s_level_rows) := ⟨rfl, rfl, rfl, by decide +kernel, rfl, by decide +kernel, by decide +kernel⟩
abbrev s_killed_in : Stmt := topS 52
abbrev N_killed_in : List Str := ["one", "entries", "last", "found", "at", "factor", "piece", "entry", "more"]
theorem sc_killed_in : FnScope N_killed_in ["one", "entries"] (defScope s_killed_in) := ⟨rfl, rfl, rfl, by decide +kernel, rfl, by decide +kernel, by decide +kernel⟩
abbrev s_does_kill_in : Stmt := topS 53
abbrev N_does_kill_in : List Str := ["one", "entries"]
theorem sc_does_kill_in : FnScope N_does_kill_in ["one", "entries"] (defScope s_does_kill_in) := ⟨rfl, rfl, rfl, by decide +kernel, rfl, by decide +kernel, by decide +kernel⟩
abbrev s_ranks_in : Stmt := topS 54
abbrev N_ranks_in : List Str := ["entries", "degree"]
theorem sc_ranks_in : FnScope N_ranks_in ["entries"] (defScope s_ranks_in) := ⟨rfl, rfl, rfl, by decide +kernel, rfl, by decide +kernel, by decide +kernel⟩
abbrev s_killers_in : Stmt := topS 55
abbrev N_killers_in : List Str := ["entries", "degree", "row"]
theorem sc_killers_in : FnScope N_killers_in ["entries", "degree"] (defScope s_killers_in) := ⟨rfl, rfl, rfl, by decide +kernel, rfl, by decide +kernel, by decide +kernel⟩
abbrev s_least_degree_in : Stmt := topS 56
abbrev N_least_degree_in : List Str := ["entries"]
theorem sc_least_degree_in : FnScope N_least_degree_in ["entries"] (defScope s_least_degree_in) := ⟨rfl, rfl, rfl, by decide +kernel, rfl, by decide +kernel, by decide +kernel⟩
abbrev s_second_killer : Stmt := topS 57
abbrev N_second_killer : List Str := ["entries", "first", "further", "row"]
theorem sc_second_killer : FnScope N_second_killer ["entries", "first"] (defScope s_second_killer) := ⟨rfl, rfl, rfl, by decide +kernel, rfl, by decide +kernel, by decide +kernel⟩
abbrev s_two_killers_in : Stmt := topS 58
abbrev N_two_killers_in : List Str := ["entries", "first"]
theorem sc_two_killers_in : FnScope N_two_killers_in ["entries"] (defScope s_two_killers_in) := ⟨rfl, rfl, rfl, by decide +kernel, rfl, by decide +kernel, by decide +kernel⟩
abbrev s_products_with : Stmt := topS 59
abbrev N_products_with : List Str := ["entries", "many", "at"]
theorem sc_products_with : FnScope N_products_with ["entries", "many"] (defScope s_products_with) := ⟨rfl, rfl, rfl, by decide +kernel, rfl, by decide +kernel, by decide +kernel⟩
abbrev s_have_common_root : Stmt := topS 60
abbrev N_have_common_root : List Str := ["one", "other", "first", "second", "rows"]
theorem sc_have_common_root : FnScope N_have_common_root ["one", "other"] (defScope s_have_common_root) := ⟨rfl, rfl, rfl, by decide +kernel, rfl, by decide +kernel, by decide +kernel⟩
abbrev s_killed_by_in : Stmt := topS 61
abbrev N_killed_by_in : List Str := ["one", "other", "last", "rows", "level", "at", "entry"]
theorem sc_killed_by_in : FnScope N_killed_by_in ["one", "other"] (defScope s_killed_by_in) := ⟨rfl, rfl, rfl, by decide +kernel, rfl, by decide +kernel, by decide +kernel⟩
abbrev s_does_kill : Stmt := topS 62
abbrev N_does_kill : List Str := ["one", "form"]
theorem sc_does_kill : FnScope N_does_kill ["one", "form"] (defScope s_does_kill) := ⟨rfl, rfl, rfl, by decide +kernel, rfl, by decide +kernel, by decide +kernel⟩
abbrev s_two_killers : Stmt := topS 63
abbrev N_two_killers : List Str := ["form", "first", "second"]
theorem sc_two_killers : FnScope N_two_killers ["form"] (defScope s_two_killers) := ⟨rfl, rfl, rfl, by decide +kernel, rfl, by decide +kernel, by decide +kernel⟩
abbrev s_killed_by : Stmt := topS 64
abbrev N_killed_by : List Str := ["one", "other"]
theorem sc_killed_by : FnScope N_killed_by ["one", "other"] (defScope s_killed_by) := ⟨rfl, rfl, rfl, by decide +kernel, rfl, by decide +kernel, by decide +kernel⟩
abbrev s_law_dice : Stmt := topS 66
abbrev N_law_dice : List Str := ["_law_script", "_law_spot", "_law_cell", "_law_left"]
theorem sc_law_dice : FnScope N_law_dice ["_law_script", "_law_spot"] (defScope s_law_dice) := ⟨rfl, rfl, rfl, by decide +kernel, rfl, by decide +kernel, by decide +kernel⟩
abbrev s_law_roll : Stmt := topS 67
abbrev N_law_roll : List Str := ["_law_dice_here", "_law_total", "_law_found", "_law_one", "_law_two"]
theorem sc_law_roll : FnScope N_law_roll ["_law_dice_here", "_law_total"] (defScope s_law_roll) := ⟨rfl, rfl, rfl, by decide +kernel, rfl, by decide +kernel, by decide +kernel⟩
abbrev s_law_near : Stmt := topS 68
abbrev N_law_near : List Str := ["_law_dice_here", "_law_most"]
theorem sc_law_near : FnScope N_law_near ["_law_dice_here", "_law_most"] (defScope s_law_near) := ⟨rfl, rfl, rfl, by decide +kernel, rfl, by decide +kernel, by decide +kernel⟩
abbrev s_law_gcd : Stmt := topS 69
abbrev N_law_gcd : List Str := ["_law_one", "_law_other"]
theorem sc_law_gcd : FnScope N_law_gcd ["_law_one", "_law_other"] (defScope s_law_gcd) := ⟨rfl, rfl, rfl, by decide +kernel, rfl, by decide +kernel, by decide +kernel⟩
abbrev s_law_shared : Stmt := topS 70
abbrev N_law_shared : List Str := ["_law_numbers", "_law_found", "_law_number"]
theorem sc_law_shared : FnScope N_law_shared ["_law_numbers"] (defScope s_law_shared) := ⟨rfl, rfl, rfl, by decide +kernel, rfl, by decide +kernel, by decide +kernel⟩
abbrev s_law_plus : Stmt := topS 71
abbrev N_law_plus : List Str := ["_law_one", "_law_other", "_law_first", "_law_second"]
theorem sc_law_plus : FnScope N_law_plus ["_law_one", "_law_other"] (defScope s_law_plus) := ⟨rfl, rfl, rfl, by decide +kernel, rfl, by decide +kernel, by decide +kernel⟩
abbrev s_law_scaled : Stmt := topS 72
abbrev N_law_scaled : List Str := ["_law_form_here", "_law_factor", "_law_entry"]
theorem sc_law_scaled : FnScope N_law_scaled ["_law_form_here", "_law_factor"] (defScope s_law_scaled) := ⟨rfl, rfl, rfl, by decide +kernel, rfl, by decide +kernel, by decide +kernel⟩
abbrev s_law_product : Stmt := topS 73
abbrev N_law_product : List Str := ["_law_one", "_law_other", "_law_found", "_law_place", "_law_at", "_law_first", "_law_second"]
theorem sc_law_product : FnScope N_law_product ["_law_one", "_law_other"] (defScope s_law_product) := ⟨rfl, rfl, rfl, by decide +kernel, rfl, by decide +kernel, by decide +kernel⟩
abbrev s_law_all_product : Stmt := topS 74
abbrev N_law_all_product : List Str := ["_law_forms", "_law_found", "_law_form_here"]
theorem sc_law_all_product : FnScope N_law_all_product ["_law_forms"] (defScope s_law_all_product) := ⟨rfl, rfl, rfl, by decide +kernel, rfl, by decide +kernel, by decide +kernel⟩
abbrev s_law_power : Stmt := topS 75
abbrev N_law_power : List Str := ["_law_pair", "_law_times", "_law_found", "_law_turn"]
theorem sc_law_power : FnScope N_law_power ["_law_pair", "_law_times"] (defScope s_law_power) := ⟨rfl, rfl, rfl, by decide +kernel, rfl, by decide +kernel, by decide +kernel⟩
abbrev s_law_plain : Stmt := topS 76
abbrev N_law_plain : List Str := ["_law_form_here", "_law_part", "_law_first", "_law_entry"]
theorem sc_law_plain : FnScope N_law_plain ["_law_form_here"] (defScope s_law_plain) := ⟨rfl, rfl, rfl, by decide +kernel, rfl, by decide +kernel, by decide +kernel⟩
abbrev s_law_line : Stmt := topS 77
abbrev N_law_line : List Str := ["_law_point_here"]
theorem sc_law_line : FnScope N_law_line ["_law_point_here"] (defScope s_law_line) := ⟨rfl, rfl, rfl, by decide +kernel, rfl, by decide +kernel, by decide +kernel⟩
abbrev s_law_point : Stmt := topS 78
abbrev N_law_point : List Str := ["_law_dice_here", "_law_most", "_law_one", "_law_other"]
theorem sc_law_point : FnScope N_law_point ["_law_dice_here", "_law_most"] (defScope s_law_point) := ⟨rfl, rfl, rfl, by decide +kernel, rfl, by decide +kernel, by decide +kernel⟩
abbrev s_law_small_form : Stmt := topS 79
abbrev N_law_small_form : List Str := ["_law_dice_here", "_law_degree", "_law_most", "_law_place"]
theorem sc_law_small_form : FnScope N_law_small_form ["_law_dice_here", "_law_degree", "_law_most"] (defScope s_law_small_form) := ⟨rfl, rfl, rfl, by decide +kernel, rfl, by decide +kernel, by decide +kernel⟩
abbrev s_law_form : Stmt := topS 80
abbrev N_law_form : List Str := ["_law_dice_here", "_law_degree", "_law_way", "_law_turn", "_law_line_here", "_law_often", "_law_found", "_law_place"]
theorem sc_law_form : FnScope N_law_form ["_law_dice_here", "_law_degree"] (defScope s_law_form) := ⟨rfl, rfl, rfl, by decide +kernel, rfl, by decide +kernel, by decide +kernel⟩
abbrev s_law_live_form : Stmt := topS 81
abbrev N_law_live_form : List Str := ["_law_dice_here", "_law_degree", "_law_found"]
theorem sc_law_live_form : FnScope N_law_live_form ["_law_dice_here", "_law_degree"] (defScope s_law_live_form) := ⟨rfl, rfl, rfl, by decide +kernel, rfl, by decide +kernel, by decide +kernel⟩
abbrev s_law_cleared : Stmt := topS 82
abbrev N_law_cleared : List Str := ["_law_rows", "_law_width", "_law_left", "_law_found", "_law_row", "_law_place", "_law_heads", "_law_at", "_law_head"]
theorem sc_law_cleared : FnScope N_law_cleared ["_law_rows", "_law_width"] (defScope s_law_cleared) := ⟨rfl, rfl, rfl, by decide +kernel, rfl, by decide +kernel, by decide +kernel⟩
abbrev s_law_less : Stmt := topS 83
abbrev N_law_less : List Str := ["_law_row", "_law_head", "_law_place", "_law_one", "_law_other", "_law_part", "_law_found", "_law_entry", "_law_taken", "_law_shared_here"]
theorem sc_law_less : FnScope N_law_less ["_law_row", "_law_head", "_law_place"] (defScope s_law_less) := ⟨rfl, rfl, rfl, by decide +kernel, rfl, by decide +kernel, by decide +kernel⟩
abbrev s_law_rank : Stmt := topS 84
abbrev N_law_rank : List Str := ["_law_rows", "_law_width"]
theorem sc_law_rank : FnScope N_law_rank ["_law_rows", "_law_width"] (defScope s_law_rank) := ⟨rfl, rfl, rfl, by decide +kernel, rfl, by decide +kernel, by decide +kernel⟩
abbrev s_law_leads : Stmt := topS 85
abbrev N_law_leads : List Str := ["_law_rows", "_law_at", "_law_entry", "_law_row"]
theorem sc_law_leads : FnScope N_law_leads ["_law_rows"] (defScope s_law_leads) := ⟨rfl, rfl, rfl, by decide +kernel, rfl, by decide +kernel, by decide +kernel⟩
abbrev s_law_kernel : Stmt := topS 86
abbrev N_law_kernel : List Str := ["_law_rows", "_law_width", "_law_told", "_law_leads_here", "_law_found", "_law_free", "_law_place", "_law_whole", "_law_row", "_law_lead", "_law_one"]
theorem sc_law_kernel : FnScope N_law_kernel ["_law_rows", "_law_width"] (defScope s_law_kernel) := ⟨rfl, rfl, rfl, by decide +kernel, rfl, by decide +kernel, by decide +kernel⟩
abbrev s_law_levels : Stmt := topS 87
abbrev N_law_levels : List Str := ["_law_entries", "_law_size", "_law_found", "_law_ups", "_law_number", "_law_at", "_law_entry"]
theorem sc_law_levels : FnScope N_law_levels ["_law_entries"] (defScope s_law_levels) := ⟨rfl, rfl, rfl, by decide +kernel, rfl, by decide +kernel, by decide +kernel⟩
abbrev s_law_killer_table : Stmt := topS 88
abbrev N_law_killer_table : List Str := ["_law_entries", "_law_degree", "_law_levels_here", "_law_at"]
theorem sc_law_killer_table : FnScope N_law_killer_table ["_law_entries", "_law_degree"] (defScope s_law_killer_table) := ⟨rfl, rfl, rfl, by decide +kernel, rfl, by decide +kernel, by decide +kernel⟩
abbrev s_law_killer_rows : Stmt := topS 89
abbrev N_law_killer_rows : List Str := ["_law_entries", "_law_degree", "_law_place", "_law_at"]
theorem sc_law_killer_rows : FnScope N_law_killer_rows ["_law_entries", "_law_degree"] (defScope s_law_killer_rows) := ⟨rfl, rfl, rfl, by decide +kernel, rfl, by decide +kernel, by decide +kernel⟩
abbrev s_law_least_kill : Stmt := topS 90
abbrev N_law_least_kill : List Str := ["_law_entries", "_law_found"]
theorem sc_law_least_kill : FnScope N_law_least_kill ["_law_entries"] (defScope s_law_least_kill) := ⟨rfl, rfl, rfl, by decide +kernel, rfl, by decide +kernel, by decide +kernel⟩
abbrev s_law_shifted_forms : Stmt := topS 91
abbrev N_law_shifted_forms : List Str := ["_law_form_here", "_law_degree", "_law_size", "_law_at"]
theorem sc_law_shifted_forms : FnScope N_law_shifted_forms ["_law_form_here", "_law_degree"] (defScope s_law_shifted_forms) := ⟨rfl, rfl, rfl, by decide +kernel, rfl, by decide +kernel, by decide +kernel⟩
abbrev s_law_is_apart : Stmt := topS 92
abbrev N_law_is_apart : List Str := ["_law_one", "_law_other", "_law_size", "_law_rows"]
theorem sc_law_is_apart : FnScope N_law_is_apart ["_law_one", "_law_other"] (defScope s_law_is_apart) := ⟨rfl, rfl, rfl, by decide +kernel, rfl, by decide +kernel, by decide +kernel⟩
abbrev s_law_due : Stmt := topS 93
abbrev N_law_due : List Str := ["_law_form_here", "_law_least", "_law_size", "_law_first", "_law_made", "_law_row"]
theorem sc_law_due : FnScope N_law_due ["_law_form_here"] (defScope s_law_due) := ⟨rfl, rfl, rfl, by decide +kernel, rfl, by decide +kernel, by decide +kernel⟩
abbrev s_law_right : Stmt := topS 94
abbrev N_law_right : List Str := ["_law_dice_here", "_law_form_here", "_law_size", "_law_due_here", "_law_told", "_law_one", "_law_degree", "_law_made"]
theorem sc_law_right : FnScope N_law_right ["_law_dice_here"] (defScope s_law_right) := ⟨rfl, rfl, rfl, by decide +kernel, rfl, by decide +kernel, by decide +kernel⟩
abbrev s_law : Stmt := topS 95
abbrev N_law : List Str := ["_law_script", "_law_spot", "_law_dice_here", "_law_some", "_law_told", "_law_one", "_law_form_here", "_law_due_here"]
theorem sc_law : FnScope N_law ["_law_script"] (defScope s_law) := ⟨rfl, rfl, rfl, by decide +kernel, rfl, by decide +kernel, by decide +kernel⟩
abbrev s_Told_init : Stmt := inClass (topS 41) 1
abbrev N_Told_init : List Str := ["self", "row"]
theorem sc_Told_init : FnScope N_Told_init ["self", "row"] (defScope s_Told_init) := ⟨rfl, rfl, rfl, by decide +kernel, rfl, by decide +kernel, by decide +kernel⟩
abbrev s_Form_init : Stmt := inClass (topS 43) 1
abbrev N_Form_init : List Str := ["self", "entries"]
theorem sc_Form_init : FnScope N_Form_init ["self", "entries"] (defScope s_Form_init) := ⟨rfl, rfl, rfl, by decide +kernel, rfl, by decide +kernel, by decide +kernel⟩
abbrev s_Form_entries : Stmt := inClass (topS 43) 4
abbrev N_Form_entries : List Str := ["self"]
theorem sc_Form_entries : FnScope N_Form_entries ["self"] (defScope s_Form_entries) := ⟨rfl, rfl, rfl, by decide +kernel, rfl, by decide +kernel, by decide +kernel⟩
abbrev s_Form_degree : Stmt := inClass (topS 43) 5
abbrev N_Form_degree : List Str := ["self"]
theorem sc_Form_degree : FnScope N_Form_degree ["self"] (defScope s_Form_degree) := ⟨rfl, rfl, rfl, by decide +kernel, rfl, by decide +kernel, by decide +kernel⟩
abbrev s_Form_is_zero : Stmt := inClass (topS 43) 6
abbrev N_Form_is_zero : List Str := ["self"]
theorem sc_Form_is_zero : FnScope N_Form_is_zero ["self"] (defScope s_Form_is_zero) := ⟨rfl, rfl, rfl, by decide +kernel, rfl, by decide +kernel, by decide +kernel⟩
abbrev s_Form_primitive : Stmt := inClass (topS 43) 8
abbrev N_Form_primitive : List Str := ["self"]
theorem sc_Form_primitive : FnScope N_Form_primitive ["self"] (defScope s_Form_primitive) := ⟨rfl, rfl, rfl, by decide +kernel, rfl, by decide +kernel, by decide +kernel⟩
abbrev s_Form_eq : Stmt := inClass (topS 43) 18
abbrev N_Form_eq : List Str := ["self", "other"]
theorem sc_Form_eq : FnScope N_Form_eq ["self", "other"] (defScope s_Form_eq) := ⟨rfl, rfl, rfl, by decide +kernel, rfl, by decide +kernel, by decide +kernel⟩
abbrev s_Form_len : Stmt := inClass (topS 43) 19
abbrev N_Form_len : List Str := ["self"]
theorem sc_Form_len : FnScope N_Form_len ["self"] (defScope s_Form_len) := ⟨rfl, rfl, rfl, by decide +kernel, rfl, by decide +kernel, by decide +kernel⟩
abbrev s_Form_iter : Stmt := inClass (topS 43) 20
abbrev N_Form_iter : List Str := ["self"]
theorem sc_Form_iter : FnScope N_Form_iter ["self"] (defScope s_Form_iter) := ⟨rfl, rfl, rfl, by decide +kernel, rfl, by decide +kernel, by decide +kernel⟩
/-- where the defs stand, what the names of the module are -/
structure Facts (K : PySem.W.Frag) (mg : Str → Option Value) where
  f_is_whole : Addr
  fd_is_whole : FuncData
  F_is_whole : FnP K "is_whole" s_is_whole f_is_whole fd_is_whole
  g_is_whole : mg "is_whole" = some (.ref f_is_whole)
  b_is_whole : Binds K fd_is_whole ["value"] []
  f_is_short : Addr
  fd_is_short : FuncData
  F_is_short : FnP K "is_short" s_is_short f_is_short fd_is_short
  g_is_short : mg "is_short" = some (.ref f_is_short)
  b_is_short : Binds K fd_is_short ["value"] []
  f_is_from : Addr
  fd_is_from : FuncData
  F_is_from : FnP K "is_from" s_is_from f_is_from fd_is_from
  g_is_from : mg "is_from" = some (.ref f_is_from)
  b_is_from : Binds K fd_is_from ["value", "least", "most"] []
  f_are_short : Addr
  fd_are_short : FuncData
  F_are_short : FnP K "are_short" s_are_short f_are_short fd_are_short
  g_are_short : mg "are_short" = some (.ref f_are_short)
  b_are_short : Binds K fd_are_short ["value"] []
  f_require_short : Addr
  fd_require_short : FuncData
  F_require_short : FnP K "require_short" s_require_short f_require_short fd_require_short
  g_require_short : mg "require_short" = some (.ref f_require_short)
  b_require_short : Binds K fd_require_short ["value"] []
  f_require_from : Addr
  fd_require_from : FuncData
  F_require_from : FnP K "require_from" s_require_from f_require_from fd_require_from
  g_require_from : mg "require_from" = some (.ref f_require_from)
  b_require_from : Binds K fd_require_from ["value", "least", "most"] []
  f_shared_of : Addr
  fd_shared_of : FuncData
  F_shared_of : FnP K "shared_of" s_shared_of f_shared_of fd_shared_of
  g_shared_of : mg "shared_of" = some (.ref f_shared_of)
  b_shared_of : Binds K fd_shared_of ["numbers"] []
  f_first_of : Addr
  fd_first_of : FuncData
  F_first_of : FnP K "first_of" s_first_of f_first_of fd_first_of
  g_first_of : mg "first_of" = some (.ref f_first_of)
  b_first_of : Binds K fd_first_of ["numbers"] []
  f_primitive_of : Addr
  fd_primitive_of : FuncData
  F_primitive_of : FnP K "primitive_of" s_primitive_of f_primitive_of fd_primitive_of
  g_primitive_of : mg "primitive_of" = some (.ref f_primitive_of)
  b_primitive_of : Binds K fd_primitive_of ["numbers"] []
  f_factorial_of : Addr
  fd_factorial_of : FuncData
  F_factorial_of : FnP K "factorial_of" s_factorial_of f_factorial_of fd_factorial_of
  g_factorial_of : mg "factorial_of" = some (.ref f_factorial_of)
  b_factorial_of : Binds K fd_factorial_of ["number"] []
  f_lots_of : Addr
  fd_lots_of : FuncData
  F_lots_of : FnP K "lots_of" s_lots_of f_lots_of fd_lots_of
  g_lots_of : mg "lots_of" = some (.ref f_lots_of)
  b_lots_of : Binds K fd_lots_of ["many", "few"] []
  f_less_head : Addr
  fd_less_head : FuncData
  F_less_head : FnP K "less_head" s_less_head f_less_head fd_less_head
  g_less_head : mg "less_head" = some (.ref f_less_head)
  b_less_head : Binds K fd_less_head ["row", "head", "place"] []
  f_echelon_rows : Addr
  fd_echelon_rows : FuncData
  F_echelon_rows : FnP K "echelon_rows" s_echelon_rows f_echelon_rows fd_echelon_rows
  g_echelon_rows : mg "echelon_rows" = some (.ref f_echelon_rows)
  b_echelon_rows : Binds K fd_echelon_rows ["rows", "width"] []
  f_lead_of : Addr
  fd_lead_of : FuncData
  F_lead_of : FnP K "lead_of" s_lead_of f_lead_of fd_lead_of
  g_lead_of : mg "lead_of" = some (.ref f_lead_of)
  b_lead_of : Binds K fd_lead_of ["row"] []
  f_rank_of : Addr
  fd_rank_of : FuncData
  F_rank_of : FnP K "rank_of" s_rank_of f_rank_of fd_rank_of
  g_rank_of : mg "rank_of" = some (.ref f_rank_of)
  b_rank_of : Binds K fd_rank_of ["rows", "width"] []
  f_kernel_rows : Addr
  fd_kernel_rows : FuncData
  F_kernel_rows : FnP K "kernel_rows" s_kernel_rows f_kernel_rows fd_kernel_rows
  g_kernel_rows : mg "kernel_rows" = some (.ref f_kernel_rows)
  b_kernel_rows : Binds K fd_kernel_rows ["rows", "width"] []
  f_joined_entries : Addr
  fd_joined_entries : FuncData
  F_joined_entries : FnP K "joined_entries" s_joined_entries f_joined_entries fd_joined_entries
  g_joined_entries : mg "joined_entries" = some (.ref f_joined_entries)
  b_joined_entries : Binds K fd_joined_entries ["one", "other"] []
  f_derived_in : Addr
  fd_derived_in : FuncData
  F_derived_in : FnP K "derived_in" s_derived_in f_derived_in fd_derived_in
  g_derived_in : mg "derived_in" = some (.ref f_derived_in)
  b_derived_in : Binds K fd_derived_in ["entries", "one", "other"] []
  f_is_zero_in : Addr
  fd_is_zero_in : FuncData
  F_is_zero_in : FnP K "is_zero_in" s_is_zero_in f_is_zero_in fd_is_zero_in
  g_is_zero_in : mg "is_zero_in" = some (.ref f_is_zero_in)
  b_is_zero_in : Binds K fd_is_zero_in ["entries"] []
  f_signed_content : Addr
  fd_signed_content : FuncData
  F_signed_content : FnP K "signed_content" s_signed_content f_signed_content fd_signed_content
  g_signed_content : mg "signed_content" = some (.ref f_signed_content)
  b_signed_content : Binds K fd_signed_content ["entries"] []
  f_primitive_in : Addr
  fd_primitive_in : FuncData
  F_primitive_in : FnP K "primitive_in" s_primitive_in f_primitive_in fd_primitive_in
  g_primitive_in : mg "primitive_in" = some (.ref f_primitive_in)
  b_primitive_in : Binds K fd_primitive_in ["entries"] []
  f_first_index : Addr
  fd_first_index : FuncData
  F_first_index : FnP K "first_index" s_first_index f_first_index fd_first_index
  g_first_index : mg "first_index" = some (.ref f_first_index)
  b_first_index : Binds K fd_first_index ["entries"] []
  f_quotient_in : Addr
  fd_quotient_in : FuncData
  F_quotient_in : FnP K "quotient_in" s_quotient_in f_quotient_in fd_quotient_in
  g_quotient_in : mg "quotient_in" = some (.ref f_quotient_in)
  b_quotient_in : Binds K fd_quotient_in ["one", "other"] []
  f_are_entries : Addr
  fd_are_entries : FuncData
  F_are_entries : FnP K "are_entries" s_are_entries f_are_entries fd_are_entries
  g_are_entries : mg "are_entries" = some (.ref f_are_entries)
  b_are_entries : Binds K fd_are_entries ["value"] []
  f_form_of : Addr
  fd_form_of : FuncData
  F_form_of : FnP K "form_of" s_form_of f_form_of fd_form_of
  g_form_of : mg "form_of" = some (.ref f_form_of)
  b_form_of : Binds K fd_form_of ["entries"] []
  f_require_form : Addr
  fd_require_form : FuncData
  F_require_form : FnP K "require_form" s_require_form f_require_form fd_require_form
  g_require_form : mg "require_form" = some (.ref f_require_form)
  b_require_form : Binds K fd_require_form ["value"] []
  f_level_entries : Addr
  fd_level_entries : FuncData
  F_level_entries : FnP K "level_entries" s_level_entries f_level_entries fd_level_entries
  g_level_entries : mg "level_entries" = some (.ref f_level_entries)
  b_level_entries : Binds K fd_level_entries ["entries"] []
  f_level_rows : Addr
  fd_level_rows : FuncData
  F_level_rows : FnP K "level_rows" s_level_rows f_level_rows fd_level_rows
  g_level_rows : mg "level_rows" = some (.ref f_level_rows)
  b_level_rows : Binds K fd_level_rows ["entries", "degree"] []
  f_killed_in : Addr
  fd_killed_in : FuncData
  F_killed_in : FnP K "killed_in" s_killed_in f_killed_in fd_killed_in
  g_killed_in : mg "killed_in" = some (.ref f_killed_in)
  b_killed_in : Binds K fd_killed_in ["one", "entries"] []
  f_does_kill_in : Addr
  fd_does_kill_in : FuncData
  F_does_kill_in : FnP K "does_kill_in" s_does_kill_in f_does_kill_in fd_does_kill_in
  g_does_kill_in : mg "does_kill_in" = some (.ref f_does_kill_in)
  b_does_kill_in : Binds K fd_does_kill_in ["one", "entries"] []
  f_ranks_in : Addr
  fd_ranks_in : FuncData
  F_ranks_in : FnP K "ranks_in" s_ranks_in f_ranks_in fd_ranks_in
  g_ranks_in : mg "ranks_in" = some (.ref f_ranks_in)
  b_ranks_in : Binds K fd_ranks_in ["entries"] []
  f_killers_in : Addr
  fd_killers_in : FuncData
  F_killers_in : FnP K "killers_in" s_killers_in f_killers_in fd_killers_in
  g_killers_in : mg "killers_in" = some (.ref f_killers_in)
  b_killers_in : Binds K fd_killers_in ["entries", "degree"] []
  f_least_degree_in : Addr
  fd_least_degree_in : FuncData
  F_least_degree_in : FnP K "least_degree_in" s_least_degree_in f_least_degree_in fd_least_degree_in
  g_least_degree_in : mg "least_degree_in" = some (.ref f_least_degree_in)
  b_least_degree_in : Binds K fd_least_degree_in ["entries"] []
  f_second_killer : Addr
  fd_second_killer : FuncData
  F_second_killer : FnP K "second_killer" s_second_killer f_second_killer fd_second_killer
  g_second_killer : mg "second_killer" = some (.ref f_second_killer)
  b_second_killer : Binds K fd_second_killer ["entries", "first"] []
  f_two_killers_in : Addr
  fd_two_killers_in : FuncData
  F_two_killers_in : FnP K "two_killers_in" s_two_killers_in f_two_killers_in fd_two_killers_in
  g_two_killers_in : mg "two_killers_in" = some (.ref f_two_killers_in)
  b_two_killers_in : Binds K fd_two_killers_in ["entries"] []
  f_products_with : Addr
  fd_products_with : FuncData
  F_products_with : FnP K "products_with" s_products_with f_products_with fd_products_with
  g_products_with : mg "products_with" = some (.ref f_products_with)
  b_products_with : Binds K fd_products_with ["entries", "many"] []
  f_have_common_root : Addr
  fd_have_common_root : FuncData
  F_have_common_root : FnP K "have_common_root" s_have_common_root f_have_common_root fd_have_common_root
  g_have_common_root : mg "have_common_root" = some (.ref f_have_common_root)
  b_have_common_root : Binds K fd_have_common_root ["one", "other"] []
  f_killed_by_in : Addr
  fd_killed_by_in : FuncData
  F_killed_by_in : FnP K "killed_by_in" s_killed_by_in f_killed_by_in fd_killed_by_in
  g_killed_by_in : mg "killed_by_in" = some (.ref f_killed_by_in)
  b_killed_by_in : Binds K fd_killed_by_in ["one", "other"] []
  f_does_kill : Addr
  fd_does_kill : FuncData
  F_does_kill : FnP K "does_kill" s_does_kill f_does_kill fd_does_kill
  g_does_kill : mg "does_kill" = some (.ref f_does_kill)
  b_does_kill : Binds K fd_does_kill ["one", "form"] []
  f_two_killers : Addr
  fd_two_killers : FuncData
  F_two_killers : FnP K "two_killers" s_two_killers f_two_killers fd_two_killers
  g_two_killers : mg "two_killers" = some (.ref f_two_killers)
  b_two_killers : Binds K fd_two_killers ["form"] []
  f_killed_by : Addr
  fd_killed_by : FuncData
  F_killed_by : FnP K "killed_by" s_killed_by f_killed_by fd_killed_by
  g_killed_by : mg "killed_by" = some (.ref f_killed_by)
  b_killed_by : Binds K fd_killed_by ["one", "other"] []
  f_law_dice : Addr
  fd_law_dice : FuncData
  F_law_dice : FnP K "_law_dice" s_law_dice f_law_dice fd_law_dice
  g_law_dice : mg "_law_dice" = some (.ref f_law_dice)
  b_law_dice : Binds K fd_law_dice ["_law_script", "_law_spot"] []
  f_law_roll : Addr
  fd_law_roll : FuncData
  F_law_roll : FnP K "_law_roll" s_law_roll f_law_roll fd_law_roll
  g_law_roll : mg "_law_roll" = some (.ref f_law_roll)
  b_law_roll : Binds K fd_law_roll ["_law_dice_here", "_law_total"] []
  f_law_near : Addr
  fd_law_near : FuncData
  F_law_near : FnP K "_law_near" s_law_near f_law_near fd_law_near
  g_law_near : mg "_law_near" = some (.ref f_law_near)
  b_law_near : Binds K fd_law_near ["_law_dice_here", "_law_most"] []
  f_law_gcd : Addr
  fd_law_gcd : FuncData
  F_law_gcd : FnP K "_law_gcd" s_law_gcd f_law_gcd fd_law_gcd
  g_law_gcd : mg "_law_gcd" = some (.ref f_law_gcd)
  b_law_gcd : Binds K fd_law_gcd ["_law_one", "_law_other"] []
  f_law_shared : Addr
  fd_law_shared : FuncData
  F_law_shared : FnP K "_law_shared" s_law_shared f_law_shared fd_law_shared
  g_law_shared : mg "_law_shared" = some (.ref f_law_shared)
  b_law_shared : Binds K fd_law_shared ["_law_numbers"] []
  f_law_plus : Addr
  fd_law_plus : FuncData
  F_law_plus : FnP K "_law_plus" s_law_plus f_law_plus fd_law_plus
  g_law_plus : mg "_law_plus" = some (.ref f_law_plus)
  b_law_plus : Binds K fd_law_plus ["_law_one", "_law_other"] []
  f_law_scaled : Addr
  fd_law_scaled : FuncData
  F_law_scaled : FnP K "_law_scaled" s_law_scaled f_law_scaled fd_law_scaled
  g_law_scaled : mg "_law_scaled" = some (.ref f_law_scaled)
  b_law_scaled : Binds K fd_law_scaled ["_law_form_here", "_law_factor"] []
  f_law_product : Addr
  fd_law_product : FuncData
  F_law_product : FnP K "_law_product" s_law_product f_law_product fd_law_product
  g_law_product : mg "_law_product" = some (.ref f_law_product)
  b_law_product : Binds K fd_law_product ["_law_one", "_law_other"] []
  f_law_all_product : Addr
  fd_law_all_product : FuncData
  F_law_all_product : FnP K "_law_all_product" s_law_all_product f_law_all_product fd_law_all_product
  g_law_all_product : mg "_law_all_product" = some (.ref f_law_all_product)
  b_law_all_product : Binds K fd_law_all_product ["_law_forms"] []
  f_law_power : Addr
  fd_law_power : FuncData
  F_law_power : FnP K "_law_power" s_law_power f_law_power fd_law_power
  g_law_power : mg "_law_power" = some (.ref f_law_power)
  b_law_power : Binds K fd_law_power ["_law_pair", "_law_times"] []
  f_law_plain : Addr
  fd_law_plain : FuncData
  F_law_plain : FnP K "_law_plain" s_law_plain f_law_plain fd_law_plain
  g_law_plain : mg "_law_plain" = some (.ref f_law_plain)
  b_law_plain : Binds K fd_law_plain ["_law_form_here"] []
  f_law_line : Addr
  fd_law_line : FuncData
  F_law_line : FnP K "_law_line" s_law_line f_law_line fd_law_line
  g_law_line : mg "_law_line" = some (.ref f_law_line)
  b_law_line : Binds K fd_law_line ["_law_point_here"] []
  f_law_point : Addr
  fd_law_point : FuncData
  F_law_point : FnP K "_law_point" s_law_point f_law_point fd_law_point
  g_law_point : mg "_law_point" = some (.ref f_law_point)
  b_law_point : Binds K fd_law_point ["_law_dice_here", "_law_most"] []
  f_law_small_form : Addr
  fd_law_small_form : FuncData
  F_law_small_form : FnP K "_law_small_form" s_law_small_form f_law_small_form fd_law_small_form
  g_law_small_form : mg "_law_small_form" = some (.ref f_law_small_form)
  b_law_small_form : Binds K fd_law_small_form ["_law_dice_here", "_law_degree", "_law_most"] []
  f_law_form : Addr
  fd_law_form : FuncData
  F_law_form : FnP K "_law_form" s_law_form f_law_form fd_law_form
  g_law_form : mg "_law_form" = some (.ref f_law_form)
  b_law_form : Binds K fd_law_form ["_law_dice_here", "_law_degree"] []
  f_law_live_form : Addr
  fd_law_live_form : FuncData
  F_law_live_form : FnP K "_law_live_form" s_law_live_form f_law_live_form fd_law_live_form
  g_law_live_form : mg "_law_live_form" = some (.ref f_law_live_form)
  b_law_live_form : Binds K fd_law_live_form ["_law_dice_here", "_law_degree"] []
  f_law_cleared : Addr
  fd_law_cleared : FuncData
  F_law_cleared : FnP K "_law_cleared" s_law_cleared f_law_cleared fd_law_cleared
  g_law_cleared : mg "_law_cleared" = some (.ref f_law_cleared)
  b_law_cleared : Binds K fd_law_cleared ["_law_rows", "_law_width"] []
  f_law_less : Addr
  fd_law_less : FuncData
  F_law_less : FnP K "_law_less" s_law_less f_law_less fd_law_less
  g_law_less : mg "_law_less" = some (.ref f_law_less)
  b_law_less : Binds K fd_law_less ["_law_row", "_law_head", "_law_place"] []
  f_law_rank : Addr
  fd_law_rank : FuncData
  F_law_rank : FnP K "_law_rank" s_law_rank f_law_rank fd_law_rank
  g_law_rank : mg "_law_rank" = some (.ref f_law_rank)
  b_law_rank : Binds K fd_law_rank ["_law_rows", "_law_width"] []
  f_law_leads : Addr
  fd_law_leads : FuncData
  F_law_leads : FnP K "_law_leads" s_law_leads f_law_leads fd_law_leads
  g_law_leads : mg "_law_leads" = some (.ref f_law_leads)
  b_law_leads : Binds K fd_law_leads ["_law_rows"] []
  f_law_kernel : Addr
  fd_law_kernel : FuncData
  F_law_kernel : FnP K "_law_kernel" s_law_kernel f_law_kernel fd_law_kernel
  g_law_kernel : mg "_law_kernel" = some (.ref f_law_kernel)
  b_law_kernel : Binds K fd_law_kernel ["_law_rows", "_law_width"] []
  f_law_levels : Addr
  fd_law_levels : FuncData
  F_law_levels : FnP K "_law_levels" s_law_levels f_law_levels fd_law_levels
  g_law_levels : mg "_law_levels" = some (.ref f_law_levels)
  b_law_levels : Binds K fd_law_levels ["_law_entries"] []
  f_law_killer_table : Addr
  fd_law_killer_table : FuncData
  F_law_killer_table : FnP K "_law_killer_table" s_law_killer_table f_law_killer_table fd_law_killer_table
  g_law_killer_table : mg "_law_killer_table" = some (.ref f_law_killer_table)
  b_law_killer_table : Binds K fd_law_killer_table ["_law_entries", "_law_degree"] []
  f_law_killer_rows : Addr
  fd_law_killer_rows : FuncData
  F_law_killer_rows : FnP K "_law_killer_rows" s_law_killer_rows f_law_killer_rows fd_law_killer_rows
  g_law_killer_rows : mg "_law_killer_rows" = some (.ref f_law_killer_rows)
  b_law_killer_rows : Binds K fd_law_killer_rows ["_law_entries", "_law_degree"] []
  f_law_least_kill : Addr
  fd_law_least_kill : FuncData
  F_law_least_kill : FnP K "_law_least_kill" s_law_least_kill f_law_least_kill fd_law_least_kill
  g_law_least_kill : mg "_law_least_kill" = some (.ref f_law_least_kill)
  b_law_least_kill : Binds K fd_law_least_kill ["_law_entries"] []
  f_law_shifted_forms : Addr
  fd_law_shifted_forms : FuncData
  F_law_shifted_forms : FnP K "_law_shifted_forms" s_law_shifted_forms f_law_shifted_forms fd_law_shifted_forms
  g_law_shifted_forms : mg "_law_shifted_forms" = some (.ref f_law_shifted_forms)
  b_law_shifted_forms : Binds K fd_law_shifted_forms ["_law_form_here", "_law_degree"] []
  f_law_is_apart : Addr
  fd_law_is_apart : FuncData
  F_law_is_apart : FnP K "_law_is_apart" s_law_is_apart f_law_is_apart fd_law_is_apart
  g_law_is_apart : mg "_law_is_apart" = some (.ref f_law_is_apart)
  b_law_is_apart : Binds K fd_law_is_apart ["_law_one", "_law_other"] []
  f_law_due : Addr
  fd_law_due : FuncData
  F_law_due : FnP K "_law_due" s_law_due f_law_due fd_law_due
  g_law_due : mg "_law_due" = some (.ref f_law_due)
  b_law_due : Binds K fd_law_due ["_law_form_here"] []
  f_law_right : Addr
  fd_law_right : FuncData
  F_law_right : FnP K "_law_right" s_law_right f_law_right fd_law_right
  g_law_right : mg "_law_right" = some (.ref f_law_right)
  b_law_right : Binds K fd_law_right ["_law_dice_here"] []
  f_law : Addr
  fd_law : FuncData
  F_law : FnP K "law" s_law f_law fd_law
  g_law : mg "law" = some (.ref f_law)
  b_law : Binds K fd_law ["_law_script"] []
  f_Told_init : Addr
  fd_Told_init : FuncData
  F_Told_init : FnM K "__init__" "Told.__init__" s_Told_init f_Told_init fd_Told_init
  b_Told_init : Binds K fd_Told_init ["self", "row"] []
  f_Form_init : Addr
  fd_Form_init : FuncData
  F_Form_init : FnM K "__init__" "Form.__init__" s_Form_init f_Form_init fd_Form_init
  b_Form_init : Binds K fd_Form_init ["self", "entries"] []
  f_Form_entries : Addr
  fd_Form_entries : FuncData
  F_Form_entries : FnM K "entries" "Form.entries" s_Form_entries f_Form_entries fd_Form_entries
  b_Form_entries : Binds K fd_Form_entries ["self"] []
  f_Form_degree : Addr
  fd_Form_degree : FuncData
  F_Form_degree : FnM K "degree" "Form.degree" s_Form_degree f_Form_degree fd_Form_degree
  b_Form_degree : Binds K fd_Form_degree ["self"] []
  f_Form_is_zero : Addr
  fd_Form_is_zero : FuncData
  F_Form_is_zero : FnM K "is_zero" "Form.is_zero" s_Form_is_zero f_Form_is_zero fd_Form_is_zero
  b_Form_is_zero : Binds K fd_Form_is_zero ["self"] []
  f_Form_primitive : Addr
  fd_Form_primitive : FuncData
  F_Form_primitive : FnM K "primitive" "Form.primitive" s_Form_primitive f_Form_primitive fd_Form_primitive
  b_Form_primitive : Binds K fd_Form_primitive ["self"] []
  f_Form_eq : Addr
  fd_Form_eq : FuncData
  F_Form_eq : FnM K "__eq__" "Form.__eq__" s_Form_eq f_Form_eq fd_Form_eq
  b_Form_eq : Binds K fd_Form_eq ["self", "other"] []
  f_Form_len : Addr
  fd_Form_len : FuncData
  F_Form_len : FnM K "__len__" "Form.__len__" s_Form_len f_Form_len fd_Form_len
  b_Form_len : Binds K fd_Form_len ["self"] []
  f_Form_iter : Addr
  fd_Form_iter : FuncData
  F_Form_iter : FnM K "__iter__" "Form.__iter__" s_Form_iter f_Form_iter fd_Form_iter
  b_Form_iter : Binds K fd_Form_iter ["self"] []
  C_Told : Addr
  g_Told : mg "Told" = some (.ref C_Told)
  oc_Told : OwnF.OC K C_Told
  mk_Told : Mk K C_Told f_Told_init
  a_own_row : Addr
  sl_own_row : SlX.Slot1 K C_Told "own_row" a_own_row 0
  C_Form : Addr
  g_Form : mg "Form" = some (.ref C_Form)
  oc_Form : OwnF.OC K C_Form
  mk_Form : Mk K C_Form f_Form_init
  a_own_entries : Addr
  sl_own_entries : SlX.Slot1 K C_Form "own_entries" a_own_entries 0
  mt_Told_init : HookG.Mt K C_Told "__init__" f_Told_init
  mt_Form_init : HookG.Mt K C_Form "__init__" f_Form_init
  p_Form_entries : Addr
  pr_Form_entries : HookG.Pr K C_Form "entries" p_Form_entries f_Form_entries
  p_Form_degree : Addr
  pr_Form_degree : HookG.Pr K C_Form "degree" p_Form_degree f_Form_degree
  p_Form_is_zero : Addr
  pr_Form_is_zero : HookG.Pr K C_Form "is_zero" p_Form_is_zero f_Form_is_zero
  p_Form_primitive : Addr
  pr_Form_primitive : HookG.Pr K C_Form "primitive" p_Form_primitive f_Form_primitive
  mt_Form_eq : HookG.Mt K C_Form "__eq__" f_Form_eq
  mt_Form_len : HookG.Mt K C_Form "__len__" f_Form_len
  mt_Form_iter : HookG.Mt K C_Form "__iter__" f_Form_iter
  kit_Told_Form : PySem.W.kitOne K (.ref C_Told) (.ref C_Form) = some false
  kit_Form_Told : PySem.W.kitOne K (.ref C_Form) (.ref C_Told) = some false
  z_abs : mg "abs" = none
  z_all : mg "all" = none
  z_any : mg "any" = none
  z_bool : mg "bool" = none
  z_enumerate : mg "enumerate" = none
  z_int : mg "int" = none
  z_isinstance : mg "isinstance" = none
  z_iter : mg "iter" = none
  z_len : mg "len" = none
  z_list : mg "list" = none
  z_max : mg "max" = none
  z_min : mg "min" = none
  z_next : mg "next" = none
  z_range : mg "range" = none
  z_tuple : mg "tuple" = none
  z_zip : mg "zip" = none
  m_gcd : mg "gcd" = some (.builtin "math.gcd")
  c_GREATEST : ∃ t, mg "GREATEST" = some (.int 1000000000000000000000000000000000000000000000000000000000000 t)
  c_MAX_DEGREE : ∃ t, mg "MAX_DEGREE" = some (.int 40 t)
  A_ZERO : Addr
  t_ZERO : StatV.TpV K mg "ZERO" [.str "zero"] A_ZERO
  A_COMMON : Addr
  t_COMMON : StatV.TpV K mg "COMMON" [.str "common"] A_COMMON
  c_first_of : Addr
  P_first_of : Addr
  code_first_of : fd_first_of.code = .ref c_first_of
  tab_first_of : (c_first_of, P_first_of) = HookT.cTA K (HookG.At.glo "first_of")
  c_first_index : Addr
  P_first_index : Addr
  code_first_index : fd_first_index.code = .ref c_first_index
  tab_first_index : (c_first_index, P_first_index) = HookT.cTA K (HookG.At.glo "first_index")
  c_second_killer : Addr
  P_second_killer : Addr
  code_second_killer : fd_second_killer.code = .ref c_second_killer
  tab_second_killer : (c_second_killer, P_second_killer) = HookT.cTA K (HookG.At.glo "second_killer")
/-! ### for the head -/
def d_is_whole : HookG.GD := ⟨.glo "is_whole", "is_whole", "is_whole", defArgs s_is_whole, defBody s_is_whole, defScope s_is_whole⟩
def d_is_short : HookG.GD := ⟨.glo "is_short", "is_short", "is_short", defArgs s_is_short, defBody s_is_short, defScope s_is_short⟩
def d_is_from : HookG.GD := ⟨.glo "is_from", "is_from", "is_from", defArgs s_is_from, defBody s_is_from, defScope s_is_from⟩
def d_are_short : HookG.GD := ⟨.glo "are_short", "are_short", "are_short", defArgs s_are_short, defBody s_are_short, defScope s_are_short⟩
def d_require_short : HookG.GD := ⟨.glo "require_short", "require_short", "require_short", defArgs s_require_short, defBody s_require_short, defScope s_require_short⟩
def d_require_from : HookG.GD := ⟨.glo "require_from", "require_from", "require_from", defArgs s_require_from, defBody s_require_from, defScope s_require_from⟩
def d_shared_of : HookG.GD := ⟨.glo "shared_of", "shared_of", "shared_of", defArgs s_shared_of, defBody s_shared_of, defScope s_shared_of⟩
def d_first_of : HookG.GD := ⟨.glo "first_of", "first_of", "first_of", defArgs s_first_of, defBody s_first_of, defScope s_first_of⟩
def d_primitive_of : HookG.GD := ⟨.glo "primitive_of", "primitive_of", "primitive_of", defArgs s_primitive_of, defBody s_primitive_of, defScope s_primitive_of⟩
def d_factorial_of : HookG.GD := ⟨.glo "factorial_of", "factorial_of", "factorial_of", defArgs s_factorial_of, defBody s_factorial_of, defScope s_factorial_of⟩
def d_lots_of : HookG.GD := ⟨.glo "lots_of", "lots_of", "lots_of", defArgs s_lots_of, defBody s_lots_of, defScope s_lots_of⟩
def d_less_head : HookG.GD := ⟨.glo "less_head", "less_head", "less_head", defArgs s_less_head, defBody s_less_head, defScope s_less_head⟩
def d_echelon_rows : HookG.GD := ⟨.glo "echelon_rows", "echelon_rows", "echelon_rows", defArgs s_echelon_rows, defBody s_echelon_rows, defScope s_echelon_rows⟩
def d_lead_of : HookG.GD := ⟨.glo "lead_of", "lead_of", "lead_of", defArgs s_lead_of, defBody s_lead_of, defScope s_lead_of⟩
def d_rank_of : HookG.GD := ⟨.glo "rank_of", "rank_of", "rank_of", defArgs s_rank_of, defBody s_rank_of, defScope s_rank_of⟩
def d_kernel_rows : HookG.GD := ⟨.glo "kernel_rows", "kernel_rows", "kernel_rows", defArgs s_kernel_rows, defBody s_kernel_rows, defScope s_kernel_rows⟩
def d_joined_entries : HookG.GD := ⟨.glo "joined_entries", "joined_entries", "joined_entries", defArgs s_joined_entries, defBody s_joined_entries, defScope s_joined_entries⟩
def d_derived_in : HookG.GD := ⟨.glo "derived_in", "derived_in", "derived_in", defArgs s_derived_in, defBody s_derived_in, defScope s_derived_in⟩
def d_is_zero_in : HookG.GD := ⟨.glo "is_zero_in", "is_zero_in", "is_zero_in", defArgs s_is_zero_in, defBody s_is_zero_in, defScope s_is_zero_in⟩
def d_signed_content : HookG.GD := ⟨.glo "signed_content", "signed_content", "signed_content", defArgs s_signed_content, defBody s_signed_content, defScope s_signed_content⟩
def d_primitive_in : HookG.GD := ⟨.glo "primitive_in", "primitive_in", "primitive_in", defArgs s_primitive_in, defBody s_primitive_in, defScope s_primitive_in⟩
def d_first_index : HookG.GD := ⟨.glo "first_index", "first_index", "first_index", defArgs s_first_index, defBody s_first_index, defScope s_first_index⟩
def d_quotient_in : HookG.GD := ⟨.glo "quotient_in", "quotient_in", "quotient_in", defArgs s_quotient_in, defBody s_quotient_in, defScope s_quotient_in⟩
def d_are_entries : HookG.GD := ⟨.glo "are_entries", "are_entries", "are_entries", defArgs s_are_entries, defBody s_are_entries, defScope s_are_entries⟩
def d_form_of : HookG.GD := ⟨.glo "form_of", "form_of", "form_of", defArgs s_form_of, defBody s_form_of, defScope s_form_of⟩
def d_require_form : HookG.GD := ⟨.glo "require_form", "require_form", "require_form", defArgs s_require_form, defBody s_require_form, defScope s_require_form⟩
def d_level_entries : HookG.GD := ⟨.glo "level_entries", "level_entries", "level_entries", defArgs s_level_entries, defBody s_level_entries, defScope s_level_entries⟩
def d_level_rows : HookG.GD := ⟨.glo "level_rows", "level_rows", "level_rows", defArgs s_level_rows, defBody s_level_rows, defScope s_level_rows⟩
def d_killed_in : HookG.GD := ⟨.glo "killed_in", "killed_in", "killed_in", defArgs s_killed_in, defBody s_killed_in, defScope s_killed_in⟩
def d_does_kill_in : HookG.GD := ⟨.glo "does_kill_in", "does_kill_in", "does_kill_in", defArgs s_does_kill_in, defBody s_does_kill_in, defScope s_does_kill_in⟩
def d_ranks_in : HookG.GD := ⟨.glo "ranks_in", "ranks_in", "ranks_in", defArgs s_ranks_in, defBody s_ranks_in, defScope s_ranks_in⟩
def d_killers_in : HookG.GD := ⟨.glo "killers_in", "killers_in", "killers_in", defArgs s_killers_in, defBody s_killers_in, defScope s_killers_in⟩
def d_least_degree_in : HookG.GD := ⟨.glo "least_degree_in", "least_degree_in", "least_degree_in", defArgs s_least_degree_in, defBody s_least_degree_in, defScope s_least_degree_in⟩
def d_second_killer : HookG.GD := ⟨.glo "second_killer", "second_killer", "second_killer", defArgs s_second_killer, defBody s_second_killer, defScope s_second_killer⟩
def d_two_killers_in : HookG.GD := ⟨.glo "two_killers_in", "two_killers_in", "two_killers_in", defArgs s_two_killers_in, defBody s_two_killers_in, defScope s_two_killers_in⟩
def d_products_with : HookG.GD := ⟨.glo "products_with", "products_with", "products_with", defArgs s_products_with, defBody s_products_with, defScope s_products_with⟩
def d_have_common_root : HookG.GD := ⟨.glo "have_common_root", "have_common_root", "have_common_root", defArgs s_have_common_root, defBody s_have_common_root, defScope s_have_common_root⟩
def d_killed_by_in : HookG.GD := ⟨.glo "killed_by_in", "killed_by_in", "killed_by_in", defArgs s_killed_by_in, defBody s_killed_by_in, defScope s_killed_by_in⟩
def d_does_kill : HookG.GD := ⟨.glo "does_kill", "does_kill", "does_kill", defArgs s_does_kill, defBody s_does_kill, defScope s_does_kill⟩
def d_two_killers : HookG.GD := ⟨.glo "two_killers", "two_killers", "two_killers", defArgs s_two_killers, defBody s_two_killers, defScope s_two_killers⟩
def d_killed_by : HookG.GD := ⟨.glo "killed_by", "killed_by", "killed_by", defArgs s_killed_by, defBody s_killed_by, defScope s_killed_by⟩
def d_law_dice : HookG.GD := ⟨.glo "_law_dice", "_law_dice", "_law_dice", defArgs s_law_dice, defBody s_law_dice, defScope s_law_dice⟩
def d_law_roll : HookG.GD := ⟨.glo "_law_roll", "_law_roll", "_law_roll", defArgs s_law_roll, defBody s_law_roll, defScope s_law_roll⟩
def d_law_near : HookG.GD := ⟨.glo "_law_near", "_law_near", "_law_near", defArgs s_law_near, defBody s_law_near, defScope s_law_near⟩
def d_law_gcd : HookG.GD := ⟨.glo "_law_gcd", "_law_gcd", "_law_gcd", defArgs s_law_gcd, defBody s_law_gcd, defScope s_law_gcd⟩
def d_law_shared : HookG.GD := ⟨.glo "_law_shared", "_law_shared", "_law_shared", defArgs s_law_shared, defBody s_law_shared, defScope s_law_shared⟩
def d_law_plus : HookG.GD := ⟨.glo "_law_plus", "_law_plus", "_law_plus", defArgs s_law_plus, defBody s_law_plus, defScope s_law_plus⟩
def d_law_scaled : HookG.GD := ⟨.glo "_law_scaled", "_law_scaled", "_law_scaled", defArgs s_law_scaled, defBody s_law_scaled, defScope s_law_scaled⟩
def d_law_product : HookG.GD := ⟨.glo "_law_product", "_law_product", "_law_product", defArgs s_law_product, defBody s_law_product, defScope s_law_product⟩
def d_law_all_product : HookG.GD := ⟨.glo "_law_all_product", "_law_all_product", "_law_all_product", defArgs s_law_all_product, defBody s_law_all_product, defScope s_law_all_product⟩
def d_law_power : HookG.GD := ⟨.glo "_law_power", "_law_power", "_law_power", defArgs s_law_power, defBody s_law_power, defScope s_law_power⟩
def d_law_plain : HookG.GD := ⟨.glo "_law_plain", "_law_plain", "_law_plain", defArgs s_law_plain, defBody s_law_plain, defScope s_law_plain⟩
def d_law_line : HookG.GD := ⟨.glo "_law_line", "_law_line", "_law_line", defArgs s_law_line, defBody s_law_line, defScope s_law_line⟩
def d_law_point : HookG.GD := ⟨.glo "_law_point", "_law_point", "_law_point", defArgs s_law_point, defBody s_law_point, defScope s_law_point⟩
def d_law_small_form : HookG.GD := ⟨.glo "_law_small_form", "_law_small_form", "_law_small_form", defArgs s_law_small_form, defBody s_law_small_form, defScope s_law_small_form⟩
def d_law_form : HookG.GD := ⟨.glo "_law_form", "_law_form", "_law_form", defArgs s_law_form, defBody s_law_form, defScope s_law_form⟩
def d_law_live_form : HookG.GD := ⟨.glo "_law_live_form", "_law_live_form", "_law_live_form", defArgs s_law_live_form, defBody s_law_live_form, defScope s_law_live_form⟩
def d_law_cleared : HookG.GD := ⟨.glo "_law_cleared", "_law_cleared", "_law_cleared", defArgs s_law_cleared, defBody s_law_cleared, defScope s_law_cleared⟩
def d_law_less : HookG.GD := ⟨.glo "_law_less", "_law_less", "_law_less", defArgs s_law_less, defBody s_law_less, defScope s_law_less⟩
def d_law_rank : HookG.GD := ⟨.glo "_law_rank", "_law_rank", "_law_rank", defArgs s_law_rank, defBody s_law_rank, defScope s_law_rank⟩
def d_law_leads : HookG.GD := ⟨.glo "_law_leads", "_law_leads", "_law_leads", defArgs s_law_leads, defBody s_law_leads, defScope s_law_leads⟩
def d_law_kernel : HookG.GD := ⟨.glo "_law_kernel", "_law_kernel", "_law_kernel", defArgs s_law_kernel, defBody s_law_kernel, defScope s_law_kernel⟩
def d_law_levels : HookG.GD := ⟨.glo "_law_levels", "_law_levels", "_law_levels", defArgs s_law_levels, defBody s_law_levels, defScope s_law_levels⟩
def d_law_killer_table : HookG.GD := ⟨.glo "_law_killer_table", "_law_killer_table", "_law_killer_table", defArgs s_law_killer_table, defBody s_law_killer_table, defScope s_law_killer_table⟩
def d_law_killer_rows : HookG.GD := ⟨.glo "_law_killer_rows", "_law_killer_rows", "_law_killer_rows", defArgs s_law_killer_rows, defBody s_law_killer_rows, defScope s_law_killer_rows⟩
def d_law_least_kill : HookG.GD := ⟨.glo "_law_least_kill", "_law_least_kill", "_law_least_kill", defArgs s_law_least_kill, defBody s_law_least_kill, defScope s_law_least_kill⟩
def d_law_shifted_forms : HookG.GD := ⟨.glo "_law_shifted_forms", "_law_shifted_forms", "_law_shifted_forms", defArgs s_law_shifted_forms, defBody s_law_shifted_forms, defScope s_law_shifted_forms⟩
def d_law_is_apart : HookG.GD := ⟨.glo "_law_is_apart", "_law_is_apart", "_law_is_apart", defArgs s_law_is_apart, defBody s_law_is_apart, defScope s_law_is_apart⟩
def d_law_due : HookG.GD := ⟨.glo "_law_due", "_law_due", "_law_due", defArgs s_law_due, defBody s_law_due, defScope s_law_due⟩
def d_law_right : HookG.GD := ⟨.glo "_law_right", "_law_right", "_law_right", defArgs s_law_right, defBody s_law_right, defScope s_law_right⟩
def d_law : HookG.GD := ⟨.glo "law", "law", "law", defArgs s_law, defBody s_law, defScope s_law⟩
def d_Told_init : HookG.GD := ⟨.met "Told" "__init__", "__init__", "Told.__init__", defArgs s_Told_init, defBody s_Told_init, defScope s_Told_init⟩
def d_Form_init : HookG.GD := ⟨.met "Form" "__init__", "__init__", "Form.__init__", defArgs s_Form_init, defBody s_Form_init, defScope s_Form_init⟩
def d_Form_entries : HookG.GD := ⟨.prp "Form" "entries", "entries", "Form.entries", defArgs s_Form_entries, defBody s_Form_entries, defScope s_Form_entries⟩
def d_Form_degree : HookG.GD := ⟨.prp "Form" "degree", "degree", "Form.degree", defArgs s_Form_degree, defBody s_Form_degree, defScope s_Form_degree⟩
def d_Form_is_zero : HookG.GD := ⟨.prp "Form" "is_zero", "is_zero", "Form.is_zero", defArgs s_Form_is_zero, defBody s_Form_is_zero, defScope s_Form_is_zero⟩
def d_Form_primitive : HookG.GD := ⟨.prp "Form" "primitive", "primitive", "Form.primitive", defArgs s_Form_primitive, defBody s_Form_primitive, defScope s_Form_primitive⟩
def d_Form_eq : HookG.GD := ⟨.met "Form" "__eq__", "__eq__", "Form.__eq__", defArgs s_Form_eq, defBody s_Form_eq, defScope s_Form_eq⟩
def d_Form_len : HookG.GD := ⟨.met "Form" "__len__", "__len__", "Form.__len__", defArgs s_Form_len, defBody s_Form_len, defScope s_Form_len⟩
def d_Form_iter : HookG.GD := ⟨.met "Form" "__iter__", "__iter__", "Form.__iter__", defArgs s_Form_iter, defBody s_Form_iter, defScope s_Form_iter⟩
def fnL : List HookG.GD := [d_is_whole, d_is_short, d_is_from, d_are_short, d_require_short, d_require_from, d_shared_of, d_first_of, d_primitive_of, d_factorial_of, d_lots_of, d_less_head, d_echelon_rows, d_lead_of, d_rank_of, d_kernel_rows, d_joined_entries, d_derived_in, d_is_zero_in, d_signed_content, d_primitive_in, d_first_index, d_quotient_in, d_are_entries, d_form_of, d_require_form, d_level_entries, d_level_rows, d_killed_in, d_does_kill_in, d_ranks_in, d_killers_in, d_least_degree_in, d_second_killer, d_two_killers_in, d_products_with, d_have_common_root, d_killed_by_in, d_does_kill, d_two_killers, d_killed_by, d_law_dice, d_law_roll, d_law_near, d_law_gcd, d_law_shared, d_law_plus, d_law_scaled, d_law_product, d_law_all_product, d_law_power, d_law_plain, d_law_line, d_law_point, d_law_small_form, d_law_form, d_law_live_form, d_law_cleared, d_law_less, d_law_rank, d_law_leads, d_law_kernel, d_law_levels, d_law_killer_table, d_law_killer_rows, d_law_least_kill, d_law_shifted_forms, d_law_is_apart, d_law_due, d_law_right, d_law, d_Told_init, d_Form_init, d_Form_entries, d_Form_degree, d_Form_is_zero, d_Form_primitive, d_Form_eq, d_Form_len, d_Form_iter]
def faL : List He.Fa := [.glo "is_whole", .glo "is_short", .glo "is_from", .glo "are_short", .glo "require_short", .glo "require_from", .glo "shared_of", .glo "first_of", .glo "primitive_of", .glo "factorial_of", .glo "lots_of", .glo "less_head", .glo "echelon_rows", .glo "lead_of", .glo "rank_of", .glo "kernel_rows", .glo "joined_entries", .glo "derived_in", .glo "is_zero_in", .glo "signed_content", .glo "primitive_in", .glo "first_index", .glo "quotient_in", .glo "are_entries", .glo "form_of", .glo "require_form", .glo "level_entries", .glo "level_rows", .glo "killed_in", .glo "does_kill_in", .glo "ranks_in", .glo "killers_in", .glo "least_degree_in", .glo "second_killer", .glo "two_killers_in", .glo "products_with", .glo "have_common_root", .glo "killed_by_in", .glo "does_kill", .glo "two_killers", .glo "killed_by", .glo "_law_dice", .glo "_law_roll", .glo "_law_near", .glo "_law_gcd", .glo "_law_shared", .glo "_law_plus", .glo "_law_scaled", .glo "_law_product", .glo "_law_all_product", .glo "_law_power", .glo "_law_plain", .glo "_law_line", .glo "_law_point", .glo "_law_small_form", .glo "_law_form", .glo "_law_live_form", .glo "_law_cleared", .glo "_law_less", .glo "_law_rank", .glo "_law_leads", .glo "_law_kernel", .glo "_law_levels", .glo "_law_killer_table", .glo "_law_killer_rows", .glo "_law_least_kill", .glo "_law_shifted_forms", .glo "_law_is_apart", .glo "_law_due", .glo "_law_right", .glo "law", .glo "Told", .glo "Form", .free "abs", .free "all", .free "any", .free "bool", .free "enumerate", .free "int", .free "isinstance", .free "iter", .free "len", .free "list", .free "max", .free "min", .free "next", .free "range", .free "tuple", .free "zip", .int "GREATEST" 1000000000000000000000000000000000000000000000000000000000000, .int "MAX_DEGREE" 40, .mkr "Told", .mkr "Form"]
def tfL : List HookG.At := [(HookG.At.glo "first_of"), (HookG.At.glo "first_index"), (HookG.At.glo "second_killer")]
def exL (K : PySem.W.Frag) : Bool := He.eqO (PySem.W.nsIn K mainGlobals "gcd") (some (some (.builtin "math.gcd"))) && (OwnF.ocB K "Told" && (HookG.slotB K "Told" "own_row" 0 && (OwnF.ocB K "Form" && (HookG.slotB K "Form" "own_entries" 0 && (HookG.mtB K "Told" "__init__" && (HookG.mtB K "Form" "__init__" && (HookG.prB K "Form" "entries" && (HookG.prB K "Form" "degree" && (HookG.prB K "Form" "is_zero" && (HookG.prB K "Form" "primitive" && (HookG.mtB K "Form" "__eq__" && (HookG.mtB K "Form" "__len__" && (HookG.mtB K "Form" "__iter__" && (HookG.dO (PySem.W.kitOne K (.ref (He.ga K "Told")) (.ref (He.ga K "Form"))) (some false) && (HookG.dO (PySem.W.kitOne K (.ref (He.ga K "Form")) (.ref (He.ga K "Told"))) (some false) && (StatV.tupB K "ZERO" [.str "zero"] && (StatV.tupB K "COMMON" [.str "common"])))))))))))))))))
theorem facts_of {K : PySem.W.Frag} {h : Heap} {mg : Str → Option Value} (X : K.In h) (G : h.Ns mainGlobals mg) (c : HookG.SaysG faL fnL exL K) : Nonempty (Facts K mg) := by
  have ex := c.more
  unfold exL at ex
  obtain ⟨ex_0, ex⟩ := He.ba ex
  obtain ⟨ex_1, ex⟩ := He.ba ex
  obtain ⟨ex_2, ex⟩ := He.ba ex
  obtain ⟨ex_3, ex⟩ := He.ba ex
  obtain ⟨ex_4, ex⟩ := He.ba ex
  obtain ⟨ex_5, ex⟩ := He.ba ex
  obtain ⟨ex_6, ex⟩ := He.ba ex
  obtain ⟨ex_7, ex⟩ := He.ba ex
  obtain ⟨ex_8, ex⟩ := He.ba ex
  obtain ⟨ex_9, ex⟩ := He.ba ex
  obtain ⟨ex_10, ex⟩ := He.ba ex
  obtain ⟨ex_11, ex⟩ := He.ba ex
  obtain ⟨ex_12, ex⟩ := He.ba ex
  obtain ⟨ex_13, ex⟩ := He.ba ex
  obtain ⟨ex_14, ex⟩ := He.ba ex
  obtain ⟨ex_15, ex⟩ := He.ba ex
  obtain ⟨ex_16, ex⟩ := He.ba ex
  obtain ⟨fd_is_whole, F_is_whole⟩ := c.def_ 0 (d := d_is_whole) rfl
  obtain ⟨fd_is_short, F_is_short⟩ := c.def_ 1 (d := d_is_short) rfl
  obtain ⟨fd_is_from, F_is_from⟩ := c.def_ 2 (d := d_is_from) rfl
  obtain ⟨fd_are_short, F_are_short⟩ := c.def_ 3 (d := d_are_short) rfl
  obtain ⟨fd_require_short, F_require_short⟩ := c.def_ 4 (d := d_require_short) rfl
  obtain ⟨fd_require_from, F_require_from⟩ := c.def_ 5 (d := d_require_from) rfl
  obtain ⟨fd_shared_of, F_shared_of⟩ := c.def_ 6 (d := d_shared_of) rfl
  obtain ⟨fd_first_of, F_first_of⟩ := c.def_ 7 (d := d_first_of) rfl
  obtain ⟨fd_primitive_of, F_primitive_of⟩ := c.def_ 8 (d := d_primitive_of) rfl
  obtain ⟨fd_factorial_of, F_factorial_of⟩ := c.def_ 9 (d := d_factorial_of) rfl
  obtain ⟨fd_lots_of, F_lots_of⟩ := c.def_ 10 (d := d_lots_of) rfl
  obtain ⟨fd_less_head, F_less_head⟩ := c.def_ 11 (d := d_less_head) rfl
  obtain ⟨fd_echelon_rows, F_echelon_rows⟩ := c.def_ 12 (d := d_echelon_rows) rfl
  obtain ⟨fd_lead_of, F_lead_of⟩ := c.def_ 13 (d := d_lead_of) rfl
  obtain ⟨fd_rank_of, F_rank_of⟩ := c.def_ 14 (d := d_rank_of) rfl
  obtain ⟨fd_kernel_rows, F_kernel_rows⟩ := c.def_ 15 (d := d_kernel_rows) rfl
  obtain ⟨fd_joined_entries, F_joined_entries⟩ := c.def_ 16 (d := d_joined_entries) rfl
  obtain ⟨fd_derived_in, F_derived_in⟩ := c.def_ 17 (d := d_derived_in) rfl
  obtain ⟨fd_is_zero_in, F_is_zero_in⟩ := c.def_ 18 (d := d_is_zero_in) rfl
  obtain ⟨fd_signed_content, F_signed_content⟩ := c.def_ 19 (d := d_signed_content) rfl
  obtain ⟨fd_primitive_in, F_primitive_in⟩ := c.def_ 20 (d := d_primitive_in) rfl
  obtain ⟨fd_first_index, F_first_index⟩ := c.def_ 21 (d := d_first_index) rfl
  obtain ⟨fd_quotient_in, F_quotient_in⟩ := c.def_ 22 (d := d_quotient_in) rfl
  obtain ⟨fd_are_entries, F_are_entries⟩ := c.def_ 23 (d := d_are_entries) rfl
  obtain ⟨fd_form_of, F_form_of⟩ := c.def_ 24 (d := d_form_of) rfl
  obtain ⟨fd_require_form, F_require_form⟩ := c.def_ 25 (d := d_require_form) rfl
  obtain ⟨fd_level_entries, F_level_entries⟩ := c.def_ 26 (d := d_level_entries) rfl
  obtain ⟨fd_level_rows, F_level_rows⟩ := c.def_ 27 (d := d_level_rows) rfl
  obtain ⟨fd_killed_in, F_killed_in⟩ := c.def_ 28 (d := d_killed_in) rfl
  obtain ⟨fd_does_kill_in, F_does_kill_in⟩ := c.def_ 29 (d := d_does_kill_in) rfl
  obtain ⟨fd_ranks_in, F_ranks_in⟩ := c.def_ 30 (d := d_ranks_in) rfl
  obtain ⟨fd_killers_in, F_killers_in⟩ := c.def_ 31 (d := d_killers_in) rfl
  obtain ⟨fd_least_degree_in, F_least_degree_in⟩ := c.def_ 32 (d := d_least_degree_in) rfl
  obtain ⟨fd_second_killer, F_second_killer⟩ := c.def_ 33 (d := d_second_killer) rfl
  obtain ⟨fd_two_killers_in, F_two_killers_in⟩ := c.def_ 34 (d := d_two_killers_in) rfl
  obtain ⟨fd_products_with, F_products_with⟩ := c.def_ 35 (d := d_products_with) rfl
  obtain ⟨fd_have_common_root, F_have_common_root⟩ := c.def_ 36 (d := d_have_common_root) rfl
  obtain ⟨fd_killed_by_in, F_killed_by_in⟩ := c.def_ 37 (d := d_killed_by_in) rfl
  obtain ⟨fd_does_kill, F_does_kill⟩ := c.def_ 38 (d := d_does_kill) rfl
  obtain ⟨fd_two_killers, F_two_killers⟩ := c.def_ 39 (d := d_two_killers) rfl
  obtain ⟨fd_killed_by, F_killed_by⟩ := c.def_ 40 (d := d_killed_by) rfl
  obtain ⟨fd_law_dice, F_law_dice⟩ := c.def_ 41 (d := d_law_dice) rfl
  obtain ⟨fd_law_roll, F_law_roll⟩ := c.def_ 42 (d := d_law_roll) rfl
  obtain ⟨fd_law_near, F_law_near⟩ := c.def_ 43 (d := d_law_near) rfl
  obtain ⟨fd_law_gcd, F_law_gcd⟩ := c.def_ 44 (d := d_law_gcd) rfl
  obtain ⟨fd_law_shared, F_law_shared⟩ := c.def_ 45 (d := d_law_shared) rfl
  obtain ⟨fd_law_plus, F_law_plus⟩ := c.def_ 46 (d := d_law_plus) rfl
  obtain ⟨fd_law_scaled, F_law_scaled⟩ := c.def_ 47 (d := d_law_scaled) rfl
  obtain ⟨fd_law_product, F_law_product⟩ := c.def_ 48 (d := d_law_product) rfl
  obtain ⟨fd_law_all_product, F_law_all_product⟩ := c.def_ 49 (d := d_law_all_product) rfl
  obtain ⟨fd_law_power, F_law_power⟩ := c.def_ 50 (d := d_law_power) rfl
  obtain ⟨fd_law_plain, F_law_plain⟩ := c.def_ 51 (d := d_law_plain) rfl
  obtain ⟨fd_law_line, F_law_line⟩ := c.def_ 52 (d := d_law_line) rfl
  obtain ⟨fd_law_point, F_law_point⟩ := c.def_ 53 (d := d_law_point) rfl
  obtain ⟨fd_law_small_form, F_law_small_form⟩ := c.def_ 54 (d := d_law_small_form) rfl
  obtain ⟨fd_law_form, F_law_form⟩ := c.def_ 55 (d := d_law_form) rfl
  obtain ⟨fd_law_live_form, F_law_live_form⟩ := c.def_ 56 (d := d_law_live_form) rfl
  obtain ⟨fd_law_cleared, F_law_cleared⟩ := c.def_ 57 (d := d_law_cleared) rfl
  obtain ⟨fd_law_less, F_law_less⟩ := c.def_ 58 (d := d_law_less) rfl
  obtain ⟨fd_law_rank, F_law_rank⟩ := c.def_ 59 (d := d_law_rank) rfl
  obtain ⟨fd_law_leads, F_law_leads⟩ := c.def_ 60 (d := d_law_leads) rfl
  obtain ⟨fd_law_kernel, F_law_kernel⟩ := c.def_ 61 (d := d_law_kernel) rfl
  obtain ⟨fd_law_levels, F_law_levels⟩ := c.def_ 62 (d := d_law_levels) rfl
  obtain ⟨fd_law_killer_table, F_law_killer_table⟩ := c.def_ 63 (d := d_law_killer_table) rfl
  obtain ⟨fd_law_killer_rows, F_law_killer_rows⟩ := c.def_ 64 (d := d_law_killer_rows) rfl
  obtain ⟨fd_law_least_kill, F_law_least_kill⟩ := c.def_ 65 (d := d_law_least_kill) rfl
  obtain ⟨fd_law_shifted_forms, F_law_shifted_forms⟩ := c.def_ 66 (d := d_law_shifted_forms) rfl
  obtain ⟨fd_law_is_apart, F_law_is_apart⟩ := c.def_ 67 (d := d_law_is_apart) rfl
  obtain ⟨fd_law_due, F_law_due⟩ := c.def_ 68 (d := d_law_due) rfl
  obtain ⟨fd_law_right, F_law_right⟩ := c.def_ 69 (d := d_law_right) rfl
  obtain ⟨fd_law, F_law⟩ := c.def_ 70 (d := d_law) rfl
  obtain ⟨fd_Told_init, F_Told_init⟩ := c.def_ 71 (d := d_Told_init) rfl
  obtain ⟨fd_Form_init, F_Form_init⟩ := c.def_ 72 (d := d_Form_init) rfl
  obtain ⟨fd_Form_entries, F_Form_entries⟩ := c.def_ 73 (d := d_Form_entries) rfl
  obtain ⟨fd_Form_degree, F_Form_degree⟩ := c.def_ 74 (d := d_Form_degree) rfl
  obtain ⟨fd_Form_is_zero, F_Form_is_zero⟩ := c.def_ 75 (d := d_Form_is_zero) rfl
  obtain ⟨fd_Form_primitive, F_Form_primitive⟩ := c.def_ 76 (d := d_Form_primitive) rfl
  obtain ⟨fd_Form_eq, F_Form_eq⟩ := c.def_ 77 (d := d_Form_eq) rfl
  obtain ⟨fd_Form_len, F_Form_len⟩ := c.def_ 78 (d := d_Form_len) rfl
  obtain ⟨fd_Form_iter, F_Form_iter⟩ := c.def_ 79 (d := d_Form_iter) rfl
  exact ⟨{ f_is_whole := _, fd_is_whole := _, F_is_whole := F_is_whole, b_is_whole := (F_is_whole.bindsN fun _ _ _ _ _ _ us hl => match us, hl with | [_], _ => rfl), g_is_whole := He.glo_ok X G (c.fact 0 (f := .glo "is_whole") rfl), f_is_short := _, fd_is_short := _, F_is_short := F_is_short, b_is_short := (F_is_short.bindsN fun _ _ _ _ _ _ us hl => match us, hl with | [_], _ => rfl), g_is_short := He.glo_ok X G (c.fact 1 (f := .glo "is_short") rfl), f_is_from := _, fd_is_from := _, F_is_from := F_is_from, b_is_from := (F_is_from.bindsN fun _ _ _ _ _ _ us hl => match us, hl with | [_, _, _], _ => rfl), g_is_from := He.glo_ok X G (c.fact 2 (f := .glo "is_from") rfl), f_are_short := _, fd_are_short := _, F_are_short := F_are_short, b_are_short := (F_are_short.bindsN fun _ _ _ _ _ _ us hl => match us, hl with | [_], _ => rfl), g_are_short := He.glo_ok X G (c.fact 3 (f := .glo "are_short") rfl), f_require_short := _, fd_require_short := _, F_require_short := F_require_short, b_require_short := (F_require_short.bindsN fun _ _ _ _ _ _ us hl => match us, hl with | [_], _ => rfl), g_require_short := He.glo_ok X G (c.fact 4 (f := .glo "require_short") rfl), f_require_from := _, fd_require_from := _, F_require_from := F_require_from, b_require_from := (F_require_from.bindsN fun _ _ _ _ _ _ us hl => match us, hl with | [_, _, _], _ => rfl), g_require_from := He.glo_ok X G (c.fact 5 (f := .glo "require_from") rfl), f_shared_of := _, fd_shared_of := _, F_shared_of := F_shared_of, b_shared_of := (F_shared_of.bindsN fun _ _ _ _ _ _ us hl => match us, hl with | [_], _ => rfl), g_shared_of := He.glo_ok X G (c.fact 6 (f := .glo "shared_of") rfl), f_first_of := _, fd_first_of := _, F_first_of := F_first_of, b_first_of := (F_first_of.bindsN fun _ _ _ _ _ _ us hl => match us, hl with | [_], _ => rfl), g_first_of := He.glo_ok X G (c.fact 7 (f := .glo "first_of") rfl), f_primitive_of := _, fd_primitive_of := _, F_primitive_of := F_primitive_of, b_primitive_of := (F_primitive_of.bindsN fun _ _ _ _ _ _ us hl => match us, hl with | [_], _ => rfl), g_primitive_of := He.glo_ok X G (c.fact 8 (f := .glo "primitive_of") rfl), f_factorial_of := _, fd_factorial_of := _, F_factorial_of := F_factorial_of, b_factorial_of := (F_factorial_of.bindsN fun _ _ _ _ _ _ us hl => match us, hl with | [_], _ => rfl), g_factorial_of := He.glo_ok X G (c.fact 9 (f := .glo "factorial_of") rfl), f_lots_of := _, fd_lots_of := _, F_lots_of := F_lots_of, b_lots_of := (F_lots_of.bindsN fun _ _ _ _ _ _ us hl => match us, hl with | [_, _], _ => rfl), g_lots_of := He.glo_ok X G (c.fact 10 (f := .glo "lots_of") rfl), f_less_head := _, fd_less_head := _, F_less_head := F_less_head, b_less_head := (F_less_head.bindsN fun _ _ _ _ _ _ us hl => match us, hl with | [_, _, _], _ => rfl), g_less_head := He.glo_ok X G (c.fact 11 (f := .glo "less_head") rfl), f_echelon_rows := _, fd_echelon_rows := _, F_echelon_rows := F_echelon_rows, b_echelon_rows := (F_echelon_rows.bindsN fun _ _ _ _ _ _ us hl => match us, hl with | [_, _], _ => rfl), g_echelon_rows := He.glo_ok X G (c.fact 12 (f := .glo "echelon_rows") rfl), f_lead_of := _, fd_lead_of := _, F_lead_of := F_lead_of, b_lead_of := (F_lead_of.bindsN fun _ _ _ _ _ _ us hl => match us, hl with | [_], _ => rfl), g_lead_of := He.glo_ok X G (c.fact 13 (f := .glo "lead_of") rfl), f_rank_of := _, fd_rank_of := _, F_rank_of := F_rank_of, b_rank_of := (F_rank_of.bindsN fun _ _ _ _ _ _ us hl => match us, hl with | [_, _], _ => rfl), g_rank_of := He.glo_ok X G (c.fact 14 (f := .glo "rank_of") rfl), f_kernel_rows := _, fd_kernel_rows := _, F_kernel_rows := F_kernel_rows, b_kernel_rows := (F_kernel_rows.bindsN fun _ _ _ _ _ _ us hl => match us, hl with | [_, _], _ => rfl), g_kernel_rows := He.glo_ok X G (c.fact 15 (f := .glo "kernel_rows") rfl), f_joined_entries := _, fd_joined_entries := _, F_joined_entries := F_joined_entries, b_joined_entries := (F_joined_entries.bindsN fun _ _ _ _ _ _ us hl => match us, hl with | [_, _], _ => rfl), g_joined_entries := He.glo_ok X G (c.fact 16 (f := .glo "joined_entries") rfl), f_derived_in := _, fd_derived_in := _, F_derived_in := F_derived_in, b_derived_in := (F_derived_in.bindsN fun _ _ _ _ _ _ us hl => match us, hl with | [_, _, _], _ => rfl), g_derived_in := He.glo_ok X G (c.fact 17 (f := .glo "derived_in") rfl), f_is_zero_in := _, fd_is_zero_in := _, F_is_zero_in := F_is_zero_in, b_is_zero_in := (F_is_zero_in.bindsN fun _ _ _ _ _ _ us hl => match us, hl with | [_], _ => rfl), g_is_zero_in := He.glo_ok X G (c.fact 18 (f := .glo "is_zero_in") rfl), f_signed_content := _, fd_signed_content := _, F_signed_content := F_signed_content, b_signed_content := (F_signed_content.bindsN fun _ _ _ _ _ _ us hl => match us, hl with | [_], _ => rfl), g_signed_content := He.glo_ok X G (c.fact 19 (f := .glo "signed_content") rfl), f_primitive_in := _, fd_primitive_in := _, F_primitive_in := F_primitive_in, b_primitive_in := (F_primitive_in.bindsN fun _ _ _ _ _ _ us hl => match us, hl with | [_], _ => rfl), g_primitive_in := He.glo_ok X G (c.fact 20 (f := .glo "primitive_in") rfl), f_first_index := _, fd_first_index := _, F_first_index := F_first_index, b_first_index := (F_first_index.bindsN fun _ _ _ _ _ _ us hl => match us, hl with | [_], _ => rfl), g_first_index := He.glo_ok X G (c.fact 21 (f := .glo "first_index") rfl), f_quotient_in := _, fd_quotient_in := _, F_quotient_in := F_quotient_in, b_quotient_in := (F_quotient_in.bindsN fun _ _ _ _ _ _ us hl => match us, hl with | [_, _], _ => rfl), g_quotient_in := He.glo_ok X G (c.fact 22 (f := .glo "quotient_in") rfl), f_are_entries := _, fd_are_entries := _, F_are_entries := F_are_entries, b_are_entries := (F_are_entries.bindsN fun _ _ _ _ _ _ us hl => match us, hl with | [_], _ => rfl), g_are_entries := He.glo_ok X G (c.fact 23 (f := .glo "are_entries") rfl), f_form_of := _, fd_form_of := _, F_form_of := F_form_of, b_form_of := (F_form_of.bindsN fun _ _ _ _ _ _ us hl => match us, hl with | [_], _ => rfl), g_form_of := He.glo_ok X G (c.fact 24 (f := .glo "form_of") rfl), f_require_form := _, fd_require_form := _, F_require_form := F_require_form, b_require_form := (F_require_form.bindsN fun _ _ _ _ _ _ us hl => match us, hl with | [_], _ => rfl), g_require_form := He.glo_ok X G (c.fact 25 (f := .glo "require_form") rfl), f_level_entries := _, fd_level_entries := _, F_level_entries := F_level_entries, b_level_entries := (F_level_entries.bindsN fun _ _ _ _ _ _ us hl => match us, hl with | [_], _ => rfl), g_level_entries := He.glo_ok X G (c.fact 26 (f := .glo "level_entries") rfl), f_level_rows := _, fd_level_rows := _, F_level_rows := F_level_rows, b_level_rows := (F_level_rows.bindsN fun _ _ _ _ _ _ us hl => match us, hl with | [_, _], _ => rfl), g_level_rows := He.glo_ok X G (c.fact 27 (f := .glo "level_rows") rfl), f_killed_in := _, fd_killed_in := _, F_killed_in := F_killed_in, b_killed_in := (F_killed_in.bindsN fun _ _ _ _ _ _ us hl => match us, hl with | [_, _], _ => rfl), g_killed_in := He.glo_ok X G (c.fact 28 (f := .glo "killed_in") rfl), f_does_kill_in := _, fd_does_kill_in := _, F_does_kill_in := F_does_kill_in, b_does_kill_in := (F_does_kill_in.bindsN fun _ _ _ _ _ _ us hl => match us, hl with | [_, _], _ => rfl), g_does_kill_in := He.glo_ok X G (c.fact 29 (f := .glo "does_kill_in") rfl), f_ranks_in := _, fd_ranks_in := _, F_ranks_in := F_ranks_in, b_ranks_in := (F_ranks_in.bindsN fun _ _ _ _ _ _ us hl => match us, hl with | [_], _ => rfl), g_ranks_in := He.glo_ok X G (c.fact 30 (f := .glo "ranks_in") rfl), f_killers_in := _, fd_killers_in := _, F_killers_in := F_killers_in, b_killers_in := (F_killers_in.bindsN fun _ _ _ _ _ _ us hl => match us, hl with | [_, _], _ => rfl), g_killers_in := He.glo_ok X G (c.fact 31 (f := .glo "killers_in") rfl), f_least_degree_in := _, fd_least_degree_in := _, F_least_degree_in := F_least_degree_in, b_least_degree_in := (F_least_degree_in.bindsN fun _ _ _ _ _ _ us hl => match us, hl with | [_], _ => rfl), g_least_degree_in := He.glo_ok X G (c.fact 32 (f := .glo "least_degree_in") rfl), f_second_killer := _, fd_second_killer := _, F_second_killer := F_second_killer, b_second_killer := (F_second_killer.bindsN fun _ _ _ _ _ _ us hl => match us, hl with | [_, _], _ => rfl), g_second_killer := He.glo_ok X G (c.fact 33 (f := .glo "second_killer") rfl), f_two_killers_in := _, fd_two_killers_in := _, F_two_killers_in := F_two_killers_in, b_two_killers_in := (F_two_killers_in.bindsN fun _ _ _ _ _ _ us hl => match us, hl with | [_], _ => rfl), g_two_killers_in := He.glo_ok X G (c.fact 34 (f := .glo "two_killers_in") rfl), f_products_with := _, fd_products_with := _, F_products_with := F_products_with, b_products_with := (F_products_with.bindsN fun _ _ _ _ _ _ us hl => match us, hl with | [_, _], _ => rfl), g_products_with := He.glo_ok X G (c.fact 35 (f := .glo "products_with") rfl), f_have_common_root := _, fd_have_common_root := _, F_have_common_root := F_have_common_root, b_have_common_root := (F_have_common_root.bindsN fun _ _ _ _ _ _ us hl => match us, hl with | [_, _], _ => rfl), g_have_common_root := He.glo_ok X G (c.fact 36 (f := .glo "have_common_root") rfl), f_killed_by_in := _, fd_killed_by_in := _, F_killed_by_in := F_killed_by_in, b_killed_by_in := (F_killed_by_in.bindsN fun _ _ _ _ _ _ us hl => match us, hl with | [_, _], _ => rfl), g_killed_by_in := He.glo_ok X G (c.fact 37 (f := .glo "killed_by_in") rfl), f_does_kill := _, fd_does_kill := _, F_does_kill := F_does_kill, b_does_kill := (F_does_kill.bindsN fun _ _ _ _ _ _ us hl => match us, hl with | [_, _], _ => rfl), g_does_kill := He.glo_ok X G (c.fact 38 (f := .glo "does_kill") rfl), f_two_killers := _, fd_two_killers := _, F_two_killers := F_two_killers, b_two_killers := (F_two_killers.bindsN fun _ _ _ _ _ _ us hl => match us, hl with | [_], _ => rfl), g_two_killers := He.glo_ok X G (c.fact 39 (f := .glo "two_killers") rfl), f_killed_by := _, fd_killed_by := _, F_killed_by := F_killed_by, b_killed_by := (F_killed_by.bindsN fun _ _ _ _ _ _ us hl => match us, hl with | [_, _], _ => rfl), g_killed_by := He.glo_ok X G (c.fact 40 (f := .glo "killed_by") rfl), f_law_dice := _, fd_law_dice := _, F_law_dice := F_law_dice, b_law_dice := (F_law_dice.bindsN fun _ _ _ _ _ _ us hl => match us, hl with | [_, _], _ => rfl), g_law_dice := He.glo_ok X G (c.fact 41 (f := .glo "_law_dice") rfl), f_law_roll := _, fd_law_roll := _, F_law_roll := F_law_roll, b_law_roll := (F_law_roll.bindsN fun _ _ _ _ _ _ us hl => match us, hl with | [_, _], _ => rfl), g_law_roll := He.glo_ok X G (c.fact 42 (f := .glo "_law_roll") rfl), f_law_near := _, fd_law_near := _, F_law_near := F_law_near, b_law_near := (F_law_near.bindsN fun _ _ _ _ _ _ us hl => match us, hl with | [_, _], _ => rfl), g_law_near := He.glo_ok X G (c.fact 43 (f := .glo "_law_near") rfl), f_law_gcd := _, fd_law_gcd := _, F_law_gcd := F_law_gcd, b_law_gcd := (F_law_gcd.bindsN fun _ _ _ _ _ _ us hl => match us, hl with | [_, _], _ => rfl), g_law_gcd := He.glo_ok X G (c.fact 44 (f := .glo "_law_gcd") rfl), f_law_shared := _, fd_law_shared := _, F_law_shared := F_law_shared, b_law_shared := (F_law_shared.bindsN fun _ _ _ _ _ _ us hl => match us, hl with | [_], _ => rfl), g_law_shared := He.glo_ok X G (c.fact 45 (f := .glo "_law_shared") rfl), f_law_plus := _, fd_law_plus := _, F_law_plus := F_law_plus, b_law_plus := (F_law_plus.bindsN fun _ _ _ _ _ _ us hl => match us, hl with | [_, _], _ => rfl), g_law_plus := He.glo_ok X G (c.fact 46 (f := .glo "_law_plus") rfl), f_law_scaled := _, fd_law_scaled := _, F_law_scaled := F_law_scaled, b_law_scaled := (F_law_scaled.bindsN fun _ _ _ _ _ _ us hl => match us, hl with | [_, _], _ => rfl), g_law_scaled := He.glo_ok X G (c.fact 47 (f := .glo "_law_scaled") rfl), f_law_product := _, fd_law_product := _, F_law_product := F_law_product, b_law_product := (F_law_product.bindsN fun _ _ _ _ _ _ us hl => match us, hl with | [_, _], _ => rfl), g_law_product := He.glo_ok X G (c.fact 48 (f := .glo "_law_product") rfl), f_law_all_product := _, fd_law_all_product := _, F_law_all_product := F_law_all_product, b_law_all_product := (F_law_all_product.bindsN fun _ _ _ _ _ _ us hl => match us, hl with | [_], _ => rfl), g_law_all_product := He.glo_ok X G (c.fact 49 (f := .glo "_law_all_product") rfl), f_law_power := _, fd_law_power := _, F_law_power := F_law_power, b_law_power := (F_law_power.bindsN fun _ _ _ _ _ _ us hl => match us, hl with | [_, _], _ => rfl), g_law_power := He.glo_ok X G (c.fact 50 (f := .glo "_law_power") rfl), f_law_plain := _, fd_law_plain := _, F_law_plain := F_law_plain, b_law_plain := (F_law_plain.bindsN fun _ _ _ _ _ _ us hl => match us, hl with | [_], _ => rfl), g_law_plain := He.glo_ok X G (c.fact 51 (f := .glo "_law_plain") rfl), f_law_line := _, fd_law_line := _, F_law_line := F_law_line, b_law_line := (F_law_line.bindsN fun _ _ _ _ _ _ us hl => match us, hl with | [_], _ => rfl), g_law_line := He.glo_ok X G (c.fact 52 (f := .glo "_law_line") rfl), f_law_point := _, fd_law_point := _, F_law_point := F_law_point, b_law_point := (F_law_point.bindsN fun _ _ _ _ _ _ us hl => match us, hl with | [_, _], _ => rfl), g_law_point := He.glo_ok X G (c.fact 53 (f := .glo "_law_point") rfl), f_law_small_form := _, fd_law_small_form := _, F_law_small_form := F_law_small_form, b_law_small_form := (F_law_small_form.bindsN fun _ _ _ _ _ _ us hl => match us, hl with | [_, _, _], _ => rfl), g_law_small_form := He.glo_ok X G (c.fact 54 (f := .glo "_law_small_form") rfl), f_law_form := _, fd_law_form := _, F_law_form := F_law_form, b_law_form := (F_law_form.bindsN fun _ _ _ _ _ _ us hl => match us, hl with | [_, _], _ => rfl), g_law_form := He.glo_ok X G (c.fact 55 (f := .glo "_law_form") rfl), f_law_live_form := _, fd_law_live_form := _, F_law_live_form := F_law_live_form, b_law_live_form := (F_law_live_form.bindsN fun _ _ _ _ _ _ us hl => match us, hl with | [_, _], _ => rfl), g_law_live_form := He.glo_ok X G (c.fact 56 (f := .glo "_law_live_form") rfl), f_law_cleared := _, fd_law_cleared := _, F_law_cleared := F_law_cleared, b_law_cleared := (F_law_cleared.bindsN fun _ _ _ _ _ _ us hl => match us, hl with | [_, _], _ => rfl), g_law_cleared := He.glo_ok X G (c.fact 57 (f := .glo "_law_cleared") rfl), f_law_less := _, fd_law_less := _, F_law_less := F_law_less, b_law_less := (F_law_less.bindsN fun _ _ _ _ _ _ us hl => match us, hl with | [_, _, _], _ => rfl), g_law_less := He.glo_ok X G (c.fact 58 (f := .glo "_law_less") rfl), f_law_rank := _, fd_law_rank := _, F_law_rank := F_law_rank, b_law_rank := (F_law_rank.bindsN fun _ _ _ _ _ _ us hl => match us, hl with | [_, _], _ => rfl), g_law_rank := He.glo_ok X G (c.fact 59 (f := .glo "_law_rank") rfl), f_law_leads := _, fd_law_leads := _, F_law_leads := F_law_leads, b_law_leads := (F_law_leads.bindsN fun _ _ _ _ _ _ us hl => match us, hl with | [_], _ => rfl), g_law_leads := He.glo_ok X G (c.fact 60 (f := .glo "_law_leads") rfl), f_law_kernel := _, fd_law_kernel := _, F_law_kernel := F_law_kernel, b_law_kernel := (F_law_kernel.bindsN fun _ _ _ _ _ _ us hl => match us, hl with | [_, _], _ => rfl), g_law_kernel := He.glo_ok X G (c.fact 61 (f := .glo "_law_kernel") rfl), f_law_levels := _, fd_law_levels := _, F_law_levels := F_law_levels, b_law_levels := (F_law_levels.bindsN fun _ _ _ _ _ _ us hl => match us, hl with | [_], _ => rfl), g_law_levels := He.glo_ok X G (c.fact 62 (f := .glo "_law_levels") rfl), f_law_killer_table := _, fd_law_killer_table := _, F_law_killer_table := F_law_killer_table, b_law_killer_table := (F_law_killer_table.bindsN fun _ _ _ _ _ _ us hl => match us, hl with | [_, _], _ => rfl), g_law_killer_table := He.glo_ok X G (c.fact 63 (f := .glo "_law_killer_table") rfl), f_law_killer_rows := _, fd_law_killer_rows := _, F_law_killer_rows := F_law_killer_rows, b_law_killer_rows := (F_law_killer_rows.bindsN fun _ _ _ _ _ _ us hl => match us, hl with | [_, _], _ => rfl), g_law_killer_rows := He.glo_ok X G (c.fact 64 (f := .glo "_law_killer_rows") rfl), f_law_least_kill := _, fd_law_least_kill := _, F_law_least_kill := F_law_least_kill, b_law_least_kill := (F_law_least_kill.bindsN fun _ _ _ _ _ _ us hl => match us, hl with | [_], _ => rfl), g_law_least_kill := He.glo_ok X G (c.fact 65 (f := .glo "_law_least_kill") rfl), f_law_shifted_forms := _, fd_law_shifted_forms := _, F_law_shifted_forms := F_law_shifted_forms, b_law_shifted_forms := (F_law_shifted_forms.bindsN fun _ _ _ _ _ _ us hl => match us, hl with | [_, _], _ => rfl), g_law_shifted_forms := He.glo_ok X G (c.fact 66 (f := .glo "_law_shifted_forms") rfl), f_law_is_apart := _, fd_law_is_apart := _, F_law_is_apart := F_law_is_apart, b_law_is_apart := (F_law_is_apart.bindsN fun _ _ _ _ _ _ us hl => match us, hl with | [_, _], _ => rfl), g_law_is_apart := He.glo_ok X G (c.fact 67 (f := .glo "_law_is_apart") rfl), f_law_due := _, fd_law_due := _, F_law_due := F_law_due, b_law_due := (F_law_due.bindsN fun _ _ _ _ _ _ us hl => match us, hl with | [_], _ => rfl), g_law_due := He.glo_ok X G (c.fact 68 (f := .glo "_law_due") rfl), f_law_right := _, fd_law_right := _, F_law_right := F_law_right, b_law_right := (F_law_right.bindsN fun _ _ _ _ _ _ us hl => match us, hl with | [_], _ => rfl), g_law_right := He.glo_ok X G (c.fact 69 (f := .glo "_law_right") rfl), f_law := _, fd_law := _, F_law := F_law, b_law := (F_law.bindsN fun _ _ _ _ _ _ us hl => match us, hl with | [_], _ => rfl), g_law := He.glo_ok X G (c.fact 70 (f := .glo "law") rfl), f_Told_init := _, fd_Told_init := _, F_Told_init := F_Told_init, b_Told_init := (F_Told_init.bindsN fun _ _ _ _ _ _ us hl => match us, hl with | [_, _], _ => rfl), f_Form_init := _, fd_Form_init := _, F_Form_init := F_Form_init, b_Form_init := (F_Form_init.bindsN fun _ _ _ _ _ _ us hl => match us, hl with | [_, _], _ => rfl), f_Form_entries := _, fd_Form_entries := _, F_Form_entries := F_Form_entries, b_Form_entries := (F_Form_entries.bindsN fun _ _ _ _ _ _ us hl => match us, hl with | [_], _ => rfl), f_Form_degree := _, fd_Form_degree := _, F_Form_degree := F_Form_degree, b_Form_degree := (F_Form_degree.bindsN fun _ _ _ _ _ _ us hl => match us, hl with | [_], _ => rfl), f_Form_is_zero := _, fd_Form_is_zero := _, F_Form_is_zero := F_Form_is_zero, b_Form_is_zero := (F_Form_is_zero.bindsN fun _ _ _ _ _ _ us hl => match us, hl with | [_], _ => rfl), f_Form_primitive := _, fd_Form_primitive := _, F_Form_primitive := F_Form_primitive, b_Form_primitive := (F_Form_primitive.bindsN fun _ _ _ _ _ _ us hl => match us, hl with | [_], _ => rfl), f_Form_eq := _, fd_Form_eq := _, F_Form_eq := F_Form_eq, b_Form_eq := (F_Form_eq.bindsN fun _ _ _ _ _ _ us hl => match us, hl with | [_, _], _ => rfl), f_Form_len := _, fd_Form_len := _, F_Form_len := F_Form_len, b_Form_len := (F_Form_len.bindsN fun _ _ _ _ _ _ us hl => match us, hl with | [_], _ => rfl), f_Form_iter := _, fd_Form_iter := _, F_Form_iter := F_Form_iter, b_Form_iter := (F_Form_iter.bindsN fun _ _ _ _ _ _ us hl => match us, hl with | [_], _ => rfl), C_Told := He.ga K "Told", g_Told := He.glo_ok X G (c.fact 71 (f := .glo "Told") rfl), mk_Told := He.mkr_ok (c.fact 91 (f := .mkr "Told") rfl), C_Form := He.ga K "Form", g_Form := He.glo_ok X G (c.fact 72 (f := .glo "Form") rfl), mk_Form := He.mkr_ok (c.fact 92 (f := .mkr "Form") rfl), z_abs := He.free_ok X G (c.fact 73 (f := .free "abs") rfl), z_all := He.free_ok X G (c.fact 74 (f := .free "all") rfl), z_any := He.free_ok X G (c.fact 75 (f := .free "any") rfl), z_bool := He.free_ok X G (c.fact 76 (f := .free "bool") rfl), z_enumerate := He.free_ok X G (c.fact 77 (f := .free "enumerate") rfl), z_int := He.free_ok X G (c.fact 78 (f := .free "int") rfl), z_isinstance := He.free_ok X G (c.fact 79 (f := .free "isinstance") rfl), z_iter := He.free_ok X G (c.fact 80 (f := .free "iter") rfl), z_len := He.free_ok X G (c.fact 81 (f := .free "len") rfl), z_list := He.free_ok X G (c.fact 82 (f := .free "list") rfl), z_max := He.free_ok X G (c.fact 83 (f := .free "max") rfl), z_min := He.free_ok X G (c.fact 84 (f := .free "min") rfl), z_next := He.free_ok X G (c.fact 85 (f := .free "next") rfl), z_range := He.free_ok X G (c.fact 86 (f := .free "range") rfl), z_tuple := He.free_ok X G (c.fact 87 (f := .free "tuple") rfl), z_zip := He.free_ok X G (c.fact 88 (f := .free "zip") rfl), c_GREATEST := He.int_ok X G (c.fact 89 (f := .int "GREATEST" 1000000000000000000000000000000000000000000000000000000000000) rfl), c_MAX_DEGREE := He.int_ok X G (c.fact 90 (f := .int "MAX_DEGREE" 40) rfl), c_first_of := HookT.codA K ((HookG.At.glo "first_of").adr K), P_first_of := He.tabOf K (HookT.codA K ((HookG.At.glo "first_of").adr K)), code_first_of := HookT.code_of F_first_of, tab_first_of := rfl, c_first_index := HookT.codA K ((HookG.At.glo "first_index").adr K), P_first_index := He.tabOf K (HookT.codA K ((HookG.At.glo "first_index").adr K)), code_first_index := HookT.code_of F_first_index, tab_first_index := rfl, c_second_killer := HookT.codA K ((HookG.At.glo "second_killer").adr K), P_second_killer := He.tabOf K (HookT.codA K ((HookG.At.glo "second_killer").adr K)), code_second_killer := HookT.code_of F_second_killer, tab_second_killer := rfl, m_gcd := PySem.W.mg_of X G (He.eqO_ok ex_0), oc_Told := OwnF.ocB_ok ex_1, a_own_row := _, sl_own_row := HookG.slotB_ok ex_2 (by decide), oc_Form := OwnF.ocB_ok ex_3, a_own_entries := _, sl_own_entries := HookG.slotB_ok ex_4 (by decide), mt_Told_init := HookG.mtB_ok ex_5, mt_Form_init := HookG.mtB_ok ex_6, p_Form_entries := _, pr_Form_entries := HookG.prB_ok ex_7, p_Form_degree := _, pr_Form_degree := HookG.prB_ok ex_8, p_Form_is_zero := _, pr_Form_is_zero := HookG.prB_ok ex_9, p_Form_primitive := _, pr_Form_primitive := HookG.prB_ok ex_10, mt_Form_eq := HookG.mtB_ok ex_11, mt_Form_len := HookG.mtB_ok ex_12, mt_Form_iter := HookG.mtB_ok ex_13, kit_Told_Form := HookG.dO_ok ex_14, kit_Form_Told := HookG.dO_ok ex_15, A_ZERO := _, t_ZERO := StatV.tupB_ok X G ex_16, A_COMMON := _, t_COMMON := StatV.tupB_ok X G ex }⟩

end K65

set_option Elab.async false
set_option linter.all false
set_option maxRecDepth 100000
set_option maxHeartbeats 0
namespace K65
open PySem PySem.Spec PyProof.Rows L2
abbrev R : PySem.W.OpenRow := PySem.W.OpenLaw.row PySem.Challenge.rw_sourceforms_k65_whole_two_killers
abbrev hk : PySem.W.Hook := HookT.hookT 5 faL fnL tfL exL
def ob (s : PySem.W.SharedT) : HookT.AlGT := HookT.obsGT 5 faL fnL tfL exL (HandSHeadRun.getT s)
theorem ob_eq (s : PySem.W.SharedT) : ob s = hk.obs s.abs := HookT.obsGT_eq (HandSHeadRun.getT_eq s)
def loose0 : List Str := ["_wall", "LetterError", "InvalidForm", "InvalidPoint", "InvalidOperation", "InvalidNumber", "TooMany", "Refused", "GREATEST", "is_whole", "is_short", "is_from", "are_short", "require_short", "require_from", "shared_of", "first_of", "primitive_of", "factorial_of", "lots_of", "less_head", "echelon_rows", "lead_of", "rank_of", "kernel_rows", "MAX_DEGREE", "product_in", "joined_entries", "power_in", "value_in"]
def loose1 : List Str := ["derived_in", "is_zero_in", "signed_content", "primitive_in", "first_index", "quotient_in", "Told", "are_entries", "Form", "form_of", "require_form", "sum_in", "ZERO", "COMMON", "level_entries", "level_rows", "killed_in", "does_kill_in", "ranks_in", "killers_in", "least_degree_in", "second_killer", "two_killers_in", "products_with", "have_common_root", "killed_by_in", "does_kill", "two_killers", "killed_by", "_law_dice"]
def loose2 : List Str := ["_law_roll", "_law_near", "_law_gcd", "_law_shared", "_law_plus", "_law_scaled", "_law_product", "_law_all_product", "_law_power", "_law_plain", "_law_line", "_law_point", "_law_small_form", "_law_form", "_law_live_form", "_law_cleared", "_law_less", "_law_rank", "_law_leads", "_law_kernel", "_law_levels", "_law_killer_table", "_law_killer_rows", "_law_least_kill", "_law_shifted_forms", "_law_is_apart", "_law_due", "_law_right"]
def loose : List Str := loose0 ++ loose1 ++ loose2
theorem run (w : World) : HandSHeadRun.RunEqI R (PySem.W.view R.prog [0, 95]) hk ob 12000 loose w := by
  show (_ : Option _) = _
  kernel_rfl
end K65

set_option Elab.async false
set_option linter.all false
set_option maxRecDepth 100000
/-! products of forms: the plain law -/
namespace K65
/-- the entry at a place, 0 behind the end -/
def co (l : List Int) (k : Nat) : Int := l.getD k 0
/-- the entries of a product -/
def cv : List Int → (Nat → Int) → Nat → Int
  | [], _, _ => 0
  | x :: xs, g, k => x * g k + (match k with
    | 0 => 0
    | k + 1 => cv xs g k)
theorem cv_nil (g : Nat → Int) (k : Nat) : cv [] g k = 0 := rfl
theorem cv_zero (x : Int) (xs : List Int) (g : Nat → Int) : cv (x :: xs) g 0 = x * g 0 := by show x * g 0 + 0 = _; omega
theorem cv_succ (x : Int) (xs : List Int) (g : Nat → Int) (k : Nat) : cv (x :: xs) g (k + 1) = x * g (k + 1) + cv xs g k := rfl
theorem cv_congr {g h : Nat → Int} : ∀ (l : List Int) (k : Nat), (∀ i, i ≤ k → g i = h i) → cv l g k = cv l h k
  | [], _, _ => rfl
  | x :: xs, 0, e => by rw [cv_zero, cv_zero, e 0 (Nat.le_refl _)]
  | x :: xs, k + 1, e => by rw [cv_succ, cv_succ, e (k + 1) (Nat.le_refl _), cv_congr xs k fun i hi => e i (by omega)]
theorem cv_ext {g h : Nat → Int} (l : List Int) (e : ∀ i, g i = h i) (k : Nat) : cv l g k = cv l h k := cv_congr l k fun i _ => e i
theorem cv_add (l : List Int) (g h : Nat → Int) : ∀ k, cv l (fun i => g i + h i) k = cv l g k + cv l h k := by
  induction l with
  | nil => intro k; rfl
  | cons x xs ih =>
    intro k
    cases k with
    | zero => rw [cv_zero, cv_zero, cv_zero, Int.mul_add]
    | succ k => rw [cv_succ, cv_succ, cv_succ, ih, Int.mul_add]; omega
theorem cv_mul (l : List Int) (c : Int) (g : Nat → Int) : ∀ k, cv l (fun i => c * g i) k = c * cv l g k := by
  induction l with
  | nil => intro k; show (0 : Int) = c * 0; rw [Int.mul_zero]
  | cons x xs ih =>
    intro k
    cases k with
    | zero => rw [cv_zero, cv_zero]; rw [← Int.mul_assoc, Int.mul_comm x c, Int.mul_assoc]
    | succ k => rw [cv_succ, cv_succ, ih, Int.mul_add, ← Int.mul_assoc, Int.mul_comm x c, Int.mul_assoc]
theorem cv_zeroF (l : List Int) : ∀ k, cv l (fun _ => 0) k = 0 := by
  induction l with
  | nil => intro k; rfl
  | cons x xs ih =>
    intro k
    cases k with
    | zero => rw [cv_zero, Int.mul_zero]
    | succ k => rw [cv_succ, ih, Int.mul_zero]; rfl
/-- what is moved by one place -/
def sh (g : Nat → Int) : Nat → Int
  | 0 => 0
  | k + 1 => g k
theorem cv_sh (l : List Int) (g : Nat → Int) : ∀ k, cv l (sh g) k = sh (cv l g) k := by
  induction l with
  | nil => intro k; cases k <;> rfl
  | cons x xs ih =>
    intro k
    cases k with
    | zero => rw [cv_zero]; show x * 0 = 0; rw [Int.mul_zero]
    | succ k =>
      rw [cv_succ, ih]
      show x * g k + sh (cv xs g) k = cv (x :: xs) g k
      cases k with
      | zero => rw [cv_zero]; show x * g 0 + 0 = x * g 0; omega
      | succ k => rw [cv_succ] <;> rfl
theorem cv_cons (x : Int) (xs : List Int) (g : Nat → Int) (k : Nat) : cv (x :: xs) g k = x * g k + sh (cv xs g) k := by
  cases k with
  | zero => rw [cv_zero]; show x * g 0 = x * g 0 + 0; omega
  | succ k => rw [cv_succ] <;> rfl
theorem co_cons (x : Int) (xs : List Int) (k : Nat) : co (x :: xs) k = (if k = 0 then x else 0) + sh (co xs) k := by
  cases k with
  | zero => show x = x + 0; omega
  | succ k =>
    show co xs k = (if k + 1 = 0 then x else 0) + co xs k
    rw [if_neg (by omega)]
    omega
/-- a constant times -/
theorem cv_one (l : List Int) : ∀ k, cv l (fun i => if i = 0 then 1 else 0) k = co l k := by
  induction l with
  | nil => intro k; rfl
  | cons x xs ih =>
    intro k
    cases k with
    | zero => rw [cv_zero, if_pos rfl, Int.mul_one]; rfl
    | succ k => rw [cv_succ, if_neg (by omega), Int.mul_zero, ih]; show 0 + co xs k = co xs k; omega
theorem cv_delta (l : List Int) (x : Int) (k : Nat) : cv l (fun i => if i = 0 then x else 0) k = x * co l k := by
  rw [← cv_one l k, ← cv_mul]
  refine cv_ext l (fun i => ?_) k
  by_cases h : i = 0
  · rw [if_pos h, if_pos h, Int.mul_one]
  · rw [if_neg h, if_neg h, Int.mul_zero]
theorem cv_comm (l m : List Int) : ∀ k, cv l (co m) k = cv m (co l) k := by
  induction l with
  | nil =>
    intro k
    rw [show cv m (co []) k = cv m (fun _ => 0) k from cv_ext m (fun i => rfl) k, cv_zeroF]
    rfl
  | cons x xs ih =>
    intro k
    rw [cv_cons, cv_ext m (h := fun i => (if i = 0 then x else 0) + sh (co xs) i) (fun i => co_cons x xs i), cv_add, cv_delta, cv_sh]
    congr 1
    cases k with
    | zero => rfl
    | succ k => exact ih k
theorem cv_far {g : Nat → Int} {b : Nat} (hb : 1 ≤ b) (hg : ∀ i, b ≤ i → g i = 0) : ∀ (l : List Int) (k : Nat), l.length + b ≤ k + 1 → cv l g k = 0
  | [], _, _ => rfl
  | x :: xs, 0, h => by rw [List.length_cons] at h; omega
  | x :: xs, k + 1, h => by
    rw [List.length_cons] at h
    rw [cv_succ, hg _ (by omega), Int.mul_zero, cv_far hb hg xs k (by omega)]
    rfl
/-- the first n values -/
def tb (n : Nat) (f : Nat → Int) : List Int := (List.range n).map f
theorem tb_len (n : Nat) (f : Nat → Int) : (tb n f).length = n := by
  unfold tb
  rw [List.length_map, List.length_range]
theorem co_tb {n : Nat} {f : Nat → Int} (k : Nat) : co (tb n f) k = if k < n then f k else 0 := by
  unfold co tb
  rw [List.getD_eq_getElem?_getD, List.getElem?_map]
  by_cases h : k < n
  · rw [List.getElem?_range h, if_pos h]
    rfl
  · rw [List.getElem?_eq_none (by rw [List.length_range]; omega), if_neg h]
    rfl
theorem co_far {l : List Int} {i : Nat} (h : l.length ≤ i) : co l i = 0 := by
  unfold co
  rw [List.getD_eq_getElem?_getD, List.getElem?_eq_none h]
  rfl
theorem co_get {l : List Int} {i : Nat} (h : i < l.length) : co l i = l[i] := by
  unfold co
  rw [List.getD_eq_getElem?_getD, List.getElem?_eq_getElem h]
  rfl
theorem co_inj {l m : List Int} (hl : l.length = m.length) (h : ∀ i, co l i = co m i) : l = m := by
  refine List.ext_getElem hl fun i h1 h2 => ?_
  rw [← co_get h1, ← co_get h2, h]
theorem tb_co (l : List Int) : tb l.length (co l) = l := co_inj (tb_len _ _) fun i => by
  rw [co_tb]
  split
  · rfl
  · exact (co_far (by omega)).symm
/-- the product of two forms -/
def ml (l m : List Int) : List Int := tb (l.length + m.length - 1) (cv l (co m))
theorem ml_len (l m : List Int) : (ml l m).length = l.length + m.length - 1 := tb_len _ _
theorem co_ml {l m : List Int} (hm : m ≠ []) (k : Nat) : co (ml l m) k = cv l (co m) k := by
  unfold ml
  rw [co_tb]
  by_cases h : k < l.length + m.length - 1
  · rw [if_pos h]
  · rw [if_neg h]
    have h1 : 0 < m.length := List.length_pos_iff.mpr hm
    exact (cv_far (b := m.length) (by omega) (fun i hi => co_far hi) l k (by omega)).symm
theorem ml_comm (l m : List Int) : ml l m = ml m l := by
  unfold ml
  rw [Nat.add_comm]
  unfold tb
  exact List.map_congr_left fun k _ => cv_comm l m k
theorem ml_ne {l m : List Int} (hl : l ≠ []) (hm : m ≠ []) : ml l m ≠ [] := by
  intro e
  have h := ml_len l m
  rw [e] at h
  have h1 : 0 < m.length := List.length_pos_iff.mpr hm
  have h2 : 0 < l.length := List.length_pos_iff.mpr hl
  have : 0 = l.length + m.length - 1 := h
  omega
/-- entry by entry -/
def pl (l m : List Int) : List Int := List.zipWith (· + ·) l m
theorem pl_len {l m : List Int} (h : l.length = m.length) : (pl l m).length = l.length := by
  unfold pl
  rw [List.length_zipWith, h, Nat.min_self]
end K65

set_option Elab.async false
set_option linter.all false
set_option maxRecDepth 100000
/-! the contents of forms -/
namespace K65
theorem least (P : Nat → Prop) (n : Nat) (h : P n) : ∃ m, P m ∧ ∀ k, P k → m ≤ k := by
  induction n using Nat.strongRecOn with
  | _ n ih =>
    by_cases c : ∃ k, k < n ∧ P k
    · obtain ⟨k, hk, pk⟩ := c
      exact ih k hk pk
    · exact ⟨n, h, fun k pk => Nat.le_of_not_lt fun z => c ⟨k, z, pk⟩⟩
structure Prm (p : Nat) : Prop where
  gt : 1 < p
  pr : ∀ a b : Nat, p ∣ a * b → p ∣ a ∨ p ∣ b
theorem prm_of {n : Nat} (h : n ≠ 1) : ∃ p, Prm p ∧ p ∣ n := by
  obtain ⟨d, ⟨d1, dn⟩, hmin⟩ := least (fun d => 1 < d ∧ d ∣ n) (if n = 0 then 2 else n) (by
    by_cases c : n = 0
    · rw [if_pos c, c]
      exact ⟨by omega, Nat.dvd_zero _⟩
    · rw [if_neg c]
      exact ⟨by omega, Nat.dvd_refl _⟩)
  refine ⟨d, ⟨d1, fun a b hab => ?_⟩, dn⟩
  by_cases c : d ∣ a
  · exact .inl c
  · refine .inr ?_
    have g0 : 0 < Nat.gcd d a := Nat.gcd_pos_of_pos_left a (by omega)
    have g1 : Nat.gcd d a ∣ n := Nat.dvd_trans (Nat.gcd_dvd_left d a) dn
    have g2 : Nat.gcd d a = 1 := by
      by_cases z : Nat.gcd d a = 1
      · exact z
      · have h1 := hmin _ ⟨show 1 < Nat.gcd d a by omega, g1⟩
        have h2 : Nat.gcd d a ≤ d := Nat.le_of_dvd (by omega) (Nat.gcd_dvd_left d a)
        have h3 : Nat.gcd d a = d := by omega
        exact absurd (h3 ▸ Nat.gcd_dvd_right d a) c
    have g3 : Nat.Coprime d a := g2
    exact g3.dvd_of_dvd_mul_left hab
theorem Prm.int {p : Nat} (h : Prm p) {x y : Int} (d : (p : Int) ∣ x * y) : (p : Int) ∣ x ∨ (p : Int) ∣ y := by
  have e := Int.natAbs_dvd_natAbs.mpr d
  rw [Int.natAbs_mul] at e
  rcases h.pr _ _ e with e | e
  · exact .inl (Int.natAbs_dvd_natAbs.mp e)
  · exact .inr (Int.natAbs_dvd_natAbs.mp e)
theorem cv_dvd {p : Int} {g : Nat → Int} : ∀ (l : List Int) (k : Nat), (∀ t, t ≤ k → p ∣ g t) → p ∣ cv l g k
  | [], _, _ => Int.dvd_zero p
  | x :: xs, 0, h => by
    rw [cv_zero]
    exact Int.dvd_mul_of_dvd_right (h 0 (Nat.le_refl _))
  | x :: xs, k + 1, h => by
    rw [cv_succ]
    exact Int.dvd_add (Int.dvd_mul_of_dvd_right (h _ (Nat.le_refl _))) (cv_dvd xs k fun t ht => h t (by omega))
theorem gauss {p : Nat} (hp : Prm p) {g : Nat → Int} {j : Nat} (h1 : ∀ t, t < j → (p : Int) ∣ g t) (h2 : ¬ (p : Int) ∣ g j) : ∀ l : List Int, (∃ x ∈ l, ¬ (p : Int) ∣ x) → ∃ k, ¬ (p : Int) ∣ cv l g k
  | [], h => by
    obtain ⟨x, hx, _⟩ := h
    cases hx
  | x :: xs, h => by
    by_cases c : (p : Int) ∣ x
    · obtain ⟨y, hy, hd⟩ := h
      have hy2 : y ∈ xs := by
        rcases List.mem_cons.mp hy with e | e
        · rw [e] at hd
          exact absurd c hd
        · exact e
      obtain ⟨k, hk⟩ := gauss hp h1 h2 xs ⟨y, hy2, hd⟩
      refine ⟨k + 1, fun z => hk ?_⟩
      rw [cv_succ] at z
      exact (Int.dvd_add_right (Int.dvd_mul_of_dvd_left c)).mp z
    · refine ⟨j, fun z => ?_⟩
      cases j with
      | zero =>
        rw [cv_zero] at z
        rcases hp.int z with e | e
        · exact c e
        · exact h2 e
      | succ j =>
        rw [cv_succ] at z
        have := (Int.dvd_add_left (cv_dvd xs j fun t ht => h1 t (by omega))).mp z
        rcases hp.int this with e | e
        · exact c e
        · exact h2 e
/-- the greatest common divisor of all -/
def cont : List Int → Nat
  | [] => 0
  | x :: xs => Nat.gcd x.natAbs (cont xs)
theorem cont_dvd : ∀ (l : List Int) (x : Int), x ∈ l → (cont l : Int) ∣ x
  | y :: ys, x, h => by
    rcases List.mem_cons.mp h with e | e
    · rw [e]
      exact Int.natAbs_dvd_natAbs.mp (by show Nat.gcd _ _ ∣ _; exact Nat.gcd_dvd_left _ _)
    · have := cont_dvd ys x e
      exact Int.dvd_trans (Int.natAbs_dvd_natAbs.mp (by show Nat.gcd _ _ ∣ cont ys; exact Nat.gcd_dvd_right _ _)) this
theorem dvd_cont {d : Nat} : ∀ l : List Int, (∀ x ∈ l, (d : Int) ∣ x) → d ∣ cont l
  | [], _ => Nat.dvd_zero d
  | y :: ys, h => Nat.dvd_gcd (Int.natAbs_dvd_natAbs.mpr (h y List.mem_cons_self)) (dvd_cont ys fun x hx => h x (List.mem_cons_of_mem _ hx))
theorem cont_scale (c : Int) : ∀ l : List Int, cont (l.map (c * ·)) = c.natAbs * cont l
  | [] => rfl
  | x :: xs => by
    show Nat.gcd (c * x).natAbs (cont (xs.map (c * ·))) = c.natAbs * Nat.gcd x.natAbs (cont xs)
    rw [cont_scale c xs, Int.natAbs_mul, Nat.gcd_mul_left]
theorem cont_zero {l : List Int} (h : cont l = 0) : ∀ x ∈ l, x = 0 := fun x hx => by
  have := cont_dvd l x hx
  rw [h] at this
  exact Int.zero_dvd.mp this
theorem co_mem {l : List Int} {k : Nat} : co l k = 0 ∨ co l k ∈ l := by
  by_cases h : k < l.length
  · rw [co_get h]
    exact .inr (List.getElem_mem h)
  · exact .inl (co_far (by omega))
theorem cont_one {l m : List Int} (hm : m ≠ []) (h1 : cont l = 1) (h2 : cont m = 1) : cont (ml l m) = 1 := by
  by_cases c : cont (ml l m) = 1
  · exact c
  · obtain ⟨p, hp, hd⟩ := prm_of c
    have key : ∀ n : List Int, cont n = 1 → ∃ x ∈ n, ¬ (p : Int) ∣ x := fun n hn => by
      by_cases z : ∃ x ∈ n, ¬ (p : Int) ∣ x
      · exact z
      · have h3 : p ∣ cont n := dvd_cont n fun x hx => Classical.byContradiction fun q => z ⟨x, hx, q⟩
        rw [hn] at h3
        have := Nat.le_of_dvd (by omega) h3
        have := hp.gt
        omega
    obtain ⟨y, hy, hyd⟩ := key m h2
    obtain ⟨j0, hj0, ej⟩ := List.mem_iff_getElem.mp hy
    obtain ⟨j, hj, hmin⟩ := least (fun j => ¬ (p : Int) ∣ co m j) j0 (by
      show ¬ (p : Int) ∣ co m j0
      rw [co_get hj0, ej]
      exact hyd)
    obtain ⟨k, hk⟩ := gauss hp (g := co m) (j := j) (fun t ht => Classical.byContradiction fun z => by
      have := hmin t z
      omega) hj l (key l h1)
    refine absurd ?_ hk
    rw [← co_ml hm]
    rcases co_mem (l := ml l m) (k := k) with e | e
    · rw [e]
      exact Int.dvd_zero _
    · exact Int.dvd_trans (Int.natCast_dvd_natCast.mpr hd) (cont_dvd _ _ e)
/-- each form is its content times a form of the content 1, or all 0 -/
theorem cont_split {l : List Int} {d : Int} (h : d.natAbs = cont l) (h0 : cont l ≠ 0) : ∃ m, l = m.map (d * ·) ∧ cont m = 1 := by
  have hd : ∀ x ∈ l, d ∣ x := fun x hx => Int.natAbs_dvd_natAbs.mp (by rw [h]; exact Int.natAbs_dvd_natAbs.mpr (cont_dvd l x hx))
  have d0 : d ≠ 0 := fun e => by rw [e] at h; exact h0 h.symm
  refine ⟨l.map (· / d), ?_, ?_⟩
  · rw [List.map_map]
    conv => lhs; rw [← List.map_id l]
    exact List.map_congr_left fun x hx => (Int.mul_ediv_cancel' (hd x hx)).symm
  · have e : l = (l.map (· / d)).map (d * ·) := by
      rw [List.map_map]
      conv => lhs; rw [← List.map_id l]
      exact List.map_congr_left fun x hx => (Int.mul_ediv_cancel' (hd x hx)).symm
    have e2 := cont_scale d (l.map (· / d))
    rw [← e, h] at e2
    have hp : 0 < cont l := by omega
    exact Nat.eq_of_mul_eq_mul_left hp (by rw [← e2, Nat.mul_one])
theorem co_map (c : Int) (l : List Int) (k : Nat) : co (l.map (c * ·)) k = c * co l k := by
  by_cases h : k < l.length
  · rw [co_get (by rw [List.length_map]; exact h), co_get h, List.getElem_map]
  · rw [co_far (by rw [List.length_map]; omega), co_far (by omega), Int.mul_zero]
theorem ml_scale (c : Int) {l m : List Int} (hm : m ≠ []) : ml (l.map (c * ·)) m = (ml l m).map (c * ·) :=
  co_inj (by rw [List.length_map, ml_len, ml_len, List.length_map]) fun k => by
    rw [co_map, co_ml hm, co_ml hm, cv_comm, cv_comm l, ← cv_mul]
    exact cv_ext m (fun i => co_map c l i) k
theorem cont_ml {l m : List Int} (hl : l ≠ []) (hm : m ≠ []) : cont (ml l m) = cont l * cont m := by
  have zer : ∀ a b : List Int, b ≠ [] → cont a = 0 → cont (ml a b) = 0 := fun a b hb ha => by
    have hz : a = a.map ((0 : Int) * ·) := by
      conv => lhs; rw [← List.map_id a]
      exact List.map_congr_left fun x hx => by rw [cont_zero ha x hx]; rfl
    rw [hz, ml_scale 0 hb, cont_scale]
    exact Nat.zero_mul _
  by_cases c1 : cont l = 0
  · rw [zer l m hm c1, c1, Nat.zero_mul]
  · by_cases c2 : cont m = 0
    · rw [ml_comm, zer m l hl c2, c2, Nat.mul_zero]
    · obtain ⟨a, ea, ca⟩ := cont_split (d := (cont l : Int)) rfl c1
      obtain ⟨b, eb, cb⟩ := cont_split (d := (cont m : Int)) rfl c2
      have hb : b ≠ [] := fun e => by rw [e] at eb; exact hm eb
      have ha : a ≠ [] := fun e => by rw [e] at ea; exact hl ea
      have e : ml l m = ((ml a b).map ((cont l : Int) * ·)).map ((cont m : Int) * ·) := by
        rw [← ml_scale _ hb, ← ea, ml_comm l b, ← ml_scale _ hl, ← eb, ml_comm]
      rw [e, cont_scale, cont_scale, cont_one hb ca cb, Nat.mul_one, Nat.mul_comm]
      rfl
end K65

set_option Elab.async false
set_option linter.all false
set_option maxRecDepth 100000
set_option maxHeartbeats 4000000
namespace K65
open PySem PySem.Spec PyProof.Rows L2 MyR SlX OwnR OwnF
/-- an int of at most sixty digits -/
def Sho (i : Int) : Prop := i.natAbs < 10 ^ 60
theorem Same.rf (H : Hp) : Same H H := fun _ _ h => h
@[elab_as_elim] theorem gen_upd {G : Hp → Prop} (H : Hp) (p : Addr) (o : HO) (n : H p = none) (h : ∀ H', Same H H' → H' p = some o → G H') : G (upd H p o) := h _ (same_upd0 n) upd_same
section
variable {P : Program} {w : World} {K : PySem.W.Frag} {mg : Str → Option Value} {base : Heap}
def spWhole : Sp := fun vs H Q _ => ∃ i : Int, vs = [.int i] ∧ Q (.bl true) H
theorem ok_is_whole (T : Facts K mg) : FnOk P w K mg base CX0 1 T.f_is_whole T.fd_is_whole ["value"] spWhole := by
  refine T.F_is_whole.ok sc_is_whole (fun vs H Q E h => ?_) (fun cdv A outer s H vs Q E hr h => ?_)
  · obtain ⟨i, rfl, _⟩ := h
    rfl
  · obtain ⟨i, rfl, q⟩ := h
    refine ⟨_, (PSs.nox (pss_one (ps_ret (pe_and (pe_callB call_isi (by rfl) T.z_isinstance (by decide +kernel) (pa_cons (pv 0) (pa_cons (pe_bltn (v := .ty "int") (by rfl) T.z_int (by decide +kernel) rfl) pa_nil))) (pe_one (pe_not (pe_callB call_isi (by rfl) T.z_isinstance (by decide +kernel) (pa_cons (pv 0) (pa_cons (pe_bltn (v := .ty "bool") (by rfl) T.z_bool (by decide +kernel) rfl) pa_nil))))))))), ?_⟩
    refine ⟨_, rfl, .int i, .ty "int", .type "int", .type "int", true, rfl, .ty "int", .base (.int i), kit_ty (show kitB "int" "int" = some true by decide +kernel), true, rfl, iteT ?_⟩
    exact ⟨_, rfl, .int i, .ty "bool", .type "int", .type "bool", false, rfl, .ty "bool", .base (.int i), kit_ty (show kitB "int" "bool" = some false by decide +kernel), false, rfl, q⟩
def spShort : Sp := fun vs H Q _ => ∃ i : Int, vs = [.int i] ∧ Sho i ∧ Q (.bl true) H
theorem ok_is_short (T : Facts K mg) : FnOk P w K mg base CX0 2 T.f_is_short T.fd_is_short ["value"] spShort := by
  have G_is_whole : FnOk P w K mg base CX0 1 T.f_is_whole T.fd_is_whole ["value"] spWhole := ok_is_whole T
  refine T.F_is_short.ok sc_is_short (fun vs H Q E h => ?_) (fun cdv A outer s H vs Q E hr h => ?_)
  · obtain ⟨i, rfl, _⟩ := h
    rfl
  · obtain ⟨i, rfl, hi, q⟩ := h
    have e60 : (10 : Nat) ^ 60 = 1000000000000000000000000000000000000000000000000000000000000 := by decide
    unfold Sho at hi
    rw [e60] at hi
    refine ⟨_, (PSs.nox (pss_one (ps_ret (pe_and (pe_call G_is_whole hr (by rfl) T.g_is_whole T.F_is_whole.kp T.b_is_whole .nil pass0 (pa_cons (pv 0) pa_nil)) (pe_one (pe_chain op_lt op_lt (pe_un un_neg (pe_glob (v := .int 1000000000000000000000000000000000000000000000000000000000000) (by rfl) T.c_GREATEST.choose_spec ⟨_, rfl⟩)) (pv 0) (pe_glob (v := .int 1000000000000000000000000000000000000000000000000000000000000) (by rfl) T.c_GREATEST.choose_spec ⟨_, rfl⟩))))))), ?_⟩
    refine ⟨_, rfl, i, rfl, true, rfl, iteT ⟨_, rfl, _, rfl, _, i, rfl, rfl, true, ?_, iteT ⟨i, _, rfl, rfl, ?_⟩⟩⟩
    · show V.bl (decide (-1000000000000000000000000000000000000000000000000000000000000 < i)) = V.bl true
      rw [decide_eq_true (by omega)]
    · show Q (V.bl (decide (i < 1000000000000000000000000000000000000000000000000000000000000))) H
      rw [decide_eq_true (by omega)]
      exact q
/-- a tuple of ints -/
abbrev tp (ns : List Int) : HO := .tup (ns.map V.int)
def spAreShort : Sp := fun vs H Q _ => ∃ (t : Addr) (ns : List Int), vs = [.ref t] ∧ H t = some (tp ns) ∧ ns.length ≤ 1000 ∧ (∀ x ∈ ns, Sho x) ∧ ∀ H', Same H H' → Q (.bl true) H'
theorem ok_are_short (T : Facts K mg) : FnOk P w K mg base CX0 3 T.f_are_short T.fd_are_short ["value"] spAreShort := by
  have G_is_short : FnOk P w K mg base CX0 2 T.f_is_short T.fd_is_short ["value"] spShort := ok_is_short T
  refine T.F_are_short.ok sc_are_short (fun vs H Q E h => ?_) (fun cdv A outer s H vs Q E hr h => ?_)
  · obtain ⟨t, ns, rfl, _⟩ := h
    rfl
  · obtain ⟨t, ns, rfl, ht, hl, hs, q⟩ := h
    refine ⟨_, (PSs.nox (pss_one (ps_ret (pe_and (pe_callB call_isi (by rfl) T.z_isinstance (by decide +kernel) (pa_cons (pv 0) (pa_cons (pe_bltn (v := .ty "tuple") (by rfl) T.z_tuple (by decide +kernel) rfl) pa_nil))) (pe_one (pe_callB (cr_all (by rfl)) (by rfl) T.z_all (by decide +kernel) (pa_cons (pe_lc (own := [("entry", 1)]) (g := (gName 1)) (tt := tYes) (by rfl) sc_are_short.nd (pi_tup (pv 0)) (blkOk_by (N := N_are_short) (sc := defScope s_are_short) (by decide +kernel)) (fun _ _ _ _ _ => (pg_name (i := 1) sc_are_short.nd rfl (.inl rfl))) (fun _ _ _ _ _ => pts_nil) (fun _ _ _ _ _ => (pe_call G_is_short hr (by rfl) T.g_is_short T.F_is_short.kp T.b_is_short .nil pass0 (pa_cons (pv 1) pa_nil)))) pa_nil))))))), ?_⟩
    refine ⟨_, rfl, .ref t, .ty "tuple", .type "tuple", .type "tuple", true, rfl, .ty "tuple", .base (.tup ht), kit_ty (show kitB "tuple" "tuple" = some true by decide +kernel), true, rfl, iteT ?_⟩
    refine ⟨_, rfl, t, rfl, ⟨_, SqT.of ht⟩, fun D hD => lc_tup (xs := ns.map V.int) (fun i H' => H' = upd H D (.lst (List.replicate i (V.bl true)))) rfl (fun i H' hi hP => ?_) (fun i x H' hi hP => ?_) (fun H' hP => ?_)⟩
    · rw [hP]
      exact SqT.of (same_upd0 hD _ _ ht)
    · subst hP
      rw [List.getElem?_map] at hi
      obtain ⟨y, hy, rfl⟩ := Option.map_eq_some_iff.mp hi
      have hlt : i < ns.length := (List.getElem?_eq_some_iff.mp hy).1
      refine ⟨rfl, ⟨_, rfl, y, rfl, hs y (List.mem_of_getElem? hy), _, upd_same, ?_, ?_⟩⟩
      · rw [List.length_replicate]
        exact small1000 (by omega)
      · rw [upd_upd, List.replicate_succ']
    · subst hP
      rw [List.length_map]
      refine ⟨D, List.replicate ns.length true, rfl, SqL.of (by rw [upd_same, List.map_replicate]), ?_⟩
      have e : (List.replicate ns.length true).all id = true := by
        rw [List.all_eq_true]
        intro x hx
        rw [(List.mem_replicate.mp hx).2]
        rfl
      rw [e]
      exact q _ (same_upd0 hD)
def spAreEntries : Sp := fun vs H Q _ => ∃ (t : Addr) (ns : List Int), vs = [.ref t] ∧ H t = some (tp ns) ∧ 1 ≤ ns.length ∧ ns.length ≤ 41 ∧ (∀ x ∈ ns, Sho x) ∧ ∀ H', Same H H' → Q (.bl true) H'
theorem ok_are_entries (T : Facts K mg) : FnOk P w K mg base CX0 4 T.f_are_entries T.fd_are_entries ["value"] spAreEntries := by
  have G_are_short : FnOk P w K mg base CX0 3 T.f_are_short T.fd_are_short ["value"] spAreShort := ok_are_short T
  refine T.F_are_entries.ok sc_are_entries (fun vs H Q E h => ?_) (fun cdv A outer s H vs Q E hr h => ?_)
  · obtain ⟨t, ns, rfl, _⟩ := h
    rfl
  · obtain ⟨t, ns, rfl, ht, h1, h41, hs, q⟩ := h
    refine ⟨_, (PSs.nox (pss_one (ps_ret (pe_and (pe_call G_are_short hr (by rfl) T.g_are_short T.F_are_short.kp T.b_are_short .nil pass0 (pa_cons (pv 0) pa_nil)) (pe_one (pe_chain op_le op_le pe_int (pe_callB call_len_seq (by rfl) T.z_len (by decide +kernel) (pa_cons (pv 0) pa_nil)) (pe_op op_add (pe_glob (v := .int 40) (by rfl) T.c_MAX_DEGREE.choose_spec ⟨_, rfl⟩) pe_int))))))), ?_⟩
    refine ⟨_, rfl, t, ns, rfl, ht, by omega, hs, fun H1 s1 => ⟨true, rfl, iteT ?_⟩⟩
    have ht1 := s1 _ _ ht
    refine ⟨_, rfl, t, _, rfl, .inr (SqT.of ht1), 1, _, rfl, rfl, true, ?_, iteT ⟨_, _, rfl, rfl, _, _, rfl, rfl, ?_⟩⟩
    · rw [List.length_map]
      show V.bl (decide ((1 : Int) ≤ (ns.length : Int))) = V.bl true
      rw [decide_eq_true (by omega)]
    · rw [List.length_map]
      show Q (V.bl (decide ((ns.length : Int) ≤ 40 + 1))) H1
      rw [decide_eq_true (by omega)]
      exact q H1 s1
/-! ### making a form -/
/-- a form with these entries -/
def Fo (C : Addr) (H : Hp) (a : Addr) (ns : List Int) : Prop := ∃ dx t, H a = some (SlO a C dx [some (.ref t)]) ∧ H dx = some (.xd []) ∧ H t = some (tp ns)
theorem Fo.same {C a : Addr} {H H' : Hp} {ns : List Int} (h : Fo C H a ns) (s : Same H H') : Fo C H' a ns := by
  obtain ⟨dx, t, h1, h2, h3⟩ := h
  exact ⟨dx, t, s _ _ h1, s _ _ h2, s _ _ h3⟩
theorem Fo.slt {C a : Addr} {H : Hp} {ns : List Int} (h : Fo C H a ns) : ∃ dx t, Slt H a C dx [some (.ref t)] ∧ H t = some (tp ns) := by
  obtain ⟨dx, t, h1, h2, h3⟩ := h
  exact ⟨dx, t, .inr ⟨h1, h2⟩, h3⟩
/-- Told(row) -/
def spTold (C : Addr) : Sp := fun vs H Q _ => ∃ (x dx : Addr) (v : V), vs = [.ref x, v] ∧ Slt H x C dx [] ∧ Q .non (slH H x C dx [some v])
theorem ok_Told_init (T : Facts K mg) : FnOk P w K mg base CX0 1 T.f_Told_init T.fd_Told_init ["self", "row"] (spTold T.C_Told) := by
  refine T.F_Told_init.ok sc_Told_init (fun vs H Q E h => ?_) (fun cdv A outer s H vs Q E hr h => ?_)
  · obtain ⟨x, dx, v, rfl, _⟩ := h
    rfl
  · obtain ⟨x, dx, v, rfl, hx, q⟩ := h
    refine ⟨_, (PSs.nox (pss_one (ps_sl (pv 0) (pv 1)))), ?_⟩
    exact ⟨_, rfl, _, rfl, x, T.C_Told, dx, T.a_own_row, [], 0, rfl, hx, T.oc_Told.scl, T.sl_own_row, q⟩
/-- Form(entries) -/
def spForm (CT CF : Addr) : Sp := fun vs H Q _ => ∃ (x dx y t : Addr), vs = [.ref x, .ref y] ∧ Slt H x CF dx [] ∧ ((∃ dy, Slt H y CT dy [some (.ref t)]) ∨ ∃ ns, y = t ∧ H t = some (tp ns) ∧ 1 ≤ ns.length ∧ ns.length ≤ 41 ∧ ∀ z ∈ ns, Sho z) ∧ ∀ H', Same H H' → Q .non (slH H' x CF dx [some (.ref t)])
theorem Slt.same {C a dx : Addr} {vs : List (Option V)} {H H' : Hp} (h : Slt H a C dx vs) (s : Same H H') : Slt H' a C dx vs := by
  rcases h with ⟨h1, h2⟩ | ⟨h1, h2⟩
  · exact .inl ⟨s _ _ h1, h2⟩
  · exact .inr ⟨s _ _ h1, s _ _ h2⟩
theorem ok_Form_init (T : Facts K mg) : FnOk P w K mg base CX0 5 T.f_Form_init T.fd_Form_init ["self", "entries"] (spForm T.C_Told T.C_Form) := by
  have G_are_entries : FnOk P w K mg base CX0 4 T.f_are_entries T.fd_are_entries ["value"] spAreEntries := ok_are_entries T
  refine T.F_Form_init.ok sc_Form_init (fun vs H Q E h => ?_) (fun cdv A outer s H vs Q E hr h => ?_)
  · obtain ⟨x, dx, y, t, rfl, _⟩ := h
    rfl
  · obtain ⟨x, dx, y, t, rfl, hx, hy, q⟩ := h
    refine ⟨_, (PSs.nox (pss_cons (ps_if (pw_and (pt_not (pt_val (pe_callB (call_isiF T.C_Told) (by rfl) T.z_isinstance (by decide +kernel) (pa_cons (pv 1) (pa_cons (pe_glob (v := .ref T.C_Told) (by rfl) T.g_Told rfl) pa_nil))))) (pw_and1 (pt_not (pt_val (pe_call G_are_entries hr (by rfl) T.g_are_entries T.F_are_entries.kp T.b_are_entries .nil pass0 (pa_cons (pv 1) pa_nil)))))).pt
      (pss_one ps_never)
      pss_nil)
    (pss_one (ps_sl (pv 0) (pe_ifExp (pt_val (pe_callB (call_isiF T.C_Told) (by rfl) T.z_isinstance (by decide +kernel) (pa_cons (pv 1) (pa_cons (pe_glob (v := .ref T.C_Told) (by rfl) T.g_Told rfl) pa_nil)))) (pe_sl (pv 1)) (pv 1)))))), ?_⟩
    rcases hy with ⟨dy, hy⟩ | ⟨ns, rfl, ht, h1, h41, hs⟩
    · refine ⟨_, rfl, .inr ⟨y, T.C_Told, dy, _, .ref T.C_Told, true, rfl, rfl, fun w r => r, hy, T.oc_Told.scl, T.oc_Told.sis, T.oc_Told.kself, true, rfl, iteF ?_⟩⟩
      refine ⟨_, rfl, .inr ⟨y, T.C_Told, dy, _, .ref T.C_Told, true, rfl, rfl, fun w r => r, hy, T.oc_Told.scl, T.oc_Told.sis, T.oc_Told.kself, true, rfl, iteT ?_⟩⟩
      refine ⟨_, rfl, y, T.C_Told, dy, T.a_own_row, _, 0, .ref t, rfl, hy, T.oc_Told.scl, T.sl_own_row, rfl, ?_⟩
      exact ⟨_, rfl, x, T.C_Form, dx, T.a_own_entries, [], 0, rfl, hx, T.oc_Form.scl, T.sl_own_entries, q H (Same.rf H)⟩
    · refine ⟨_, rfl, .inl ⟨.ref y, .ref T.C_Told, .type "tuple", .ref T.C_Told, false, rfl, .own _, .base (.tup ht), T.oc_Told.ktup, false, rfl, iteT ?_⟩⟩
      refine ⟨_, rfl, y, ns, rfl, ht, h1, h41, hs, fun H1 s1 => ⟨true, rfl, iteF ?_⟩⟩
      refine ⟨_, rfl, .inl ⟨.ref y, .ref T.C_Told, .type "tuple", .ref T.C_Told, false, rfl, .own _, .base (.tup (s1 _ _ ht)), T.oc_Told.ktup, false, rfl, iteF ?_⟩⟩
      exact ⟨_, rfl, _, rfl, x, T.C_Form, dx, T.a_own_entries, [], 0, rfl, Slt.same hx s1, T.oc_Form.scl, T.sl_own_entries, q H1 s1⟩
/-- what making leaves -/
theorem made {C x dx : Addr} {v : V} {H' H0 : Hp} (hx : H0 x = none) (hdx : H0 dx = none) (hne : dx ≠ x) (s : Same (upd (upd H0 dx (.own x)) x (.ins C dx [])) H') : Same H0 (slH H' x C dx [some v]) := fun b o e => by
  have h1 : b ≠ x := ne_of_none e hx
  have h2 : b ≠ dx := ne_of_none e hdx
  rw [slH_ne h1 h2]
  exact s _ _ (by rw [upd_ne h1, upd_ne h2]; exact e)
/-- what is made of a row -/
def spMake (C : Addr) : Sp := fun vs H Q _ => ∃ (t : Addr) (ns : List Int), vs = [.ref t] ∧ H t = some (tp ns) ∧ ∀ p H', Same H H' → H p = none → Fo C H' p ns → Q (.ref p) H'
theorem ok_form_of (T : Facts K mg) : FnOk P w K mg base CX0 7 T.f_form_of T.fd_form_of ["entries"] (spMake T.C_Form) := by
  have G_Told_init : FnOk P w K mg base CX0 1 T.f_Told_init T.fd_Told_init ["self", "row"] (spTold T.C_Told) := ok_Told_init T
  have G_Form_init : FnOk P w K mg base CX0 5 T.f_Form_init T.fd_Form_init ["self", "entries"] (spForm T.C_Told T.C_Form) := ok_Form_init T
  refine T.F_form_of.ok sc_form_of (fun vs H Q E h => ?_) (fun cdv A outer s H vs Q E hr h => ?_)
  · obtain ⟨t, ns, rfl, _⟩ := h
    rfl
  · obtain ⟨t, ns, rfl, ht, q⟩ := h
    refine ⟨_, (PSs.nox (pss_one (ps_ret (pe_make T.mk_Form G_Form_init (hr.mono (by decide)) (by rfl) T.g_Form T.b_Form_init .nil pass0 (pa_cons (pe_make T.mk_Told G_Told_init (hr.mono (by decide)) (by rfl) T.g_Told T.b_Told_init .nil pass0 (pa_cons (pv 0) pa_nil)) pa_nil))))), ?_⟩
    refine ⟨_, rfl, fun x dx hx hdx hne => ⟨x, dx, .ref t, rfl, .inl ⟨upd_same, rfl⟩, rfl, ?_⟩⟩
    have s1 : Same H (slH (upd (upd H dx (.own x)) x (.ins T.C_Told dx [])) x T.C_Told dx [some (.ref t)]) := made hx hdx hne (Same.rf _)
    have y1 : Slt (slH (upd (upd H dx (.own x)) x (.ins T.C_Told dx [])) x T.C_Told dx [some (.ref t)]) x T.C_Told dx [some (.ref t)] := slH_slt hne
    generalize slH (upd (upd H dx (.own x)) x (.ins T.C_Told dx [])) x T.C_Told dx [some (.ref t)] = H1 at s1 y1 ⊢
    refine fun x2 dx2 hx2 hdx2 hne2 => ⟨x2, dx2, x, t, rfl, .inl ⟨upd_same, rfl⟩, .inl ⟨dx, ?_⟩, fun H2 s2 => ⟨rfl, ?_⟩⟩
    · exact slt_upd (slt_upd y1 hdx2) (by rw [upd_ne (Ne.symm hne2)]; exact hx2)
    · have s3 : Same H1 (slH H2 x2 T.C_Form dx2 [some (.ref t)]) := made hx2 hdx2 hne2 s2
      have hx0 : H x2 = none := by
        cases e : H x2 with
        | none => rfl
        | some o =>
          have := s1 _ _ e
          rw [hx2] at this
          cases this
      refine q x2 _ (fun b o e => s3 _ _ (s1 _ _ e)) hx0 ⟨dx2, t, upd_same, ?_, s3 _ _ (s1 _ _ ht)⟩
      unfold slH
      rw [upd_ne hne2, upd_same]
end
end K65

set_option Elab.async false
set_option linter.all false
set_option maxRecDepth 100000
set_option maxHeartbeats 4000000
namespace K65
open PySem PySem.Spec PyProof.Rows L2 MyR SlX OwnR OwnF
theorem cv_snoc (x : Int) (g : Nat → Int) : ∀ (l : List Int) (k : Nat), cv (l ++ [x]) g k = cv l g k + (if l.length ≤ k then x * g (k - l.length) else 0)
  | [], k => by
    show cv (x :: []) g k = 0 + (if 0 ≤ k then x * g (k - 0) else 0)
    rw [if_pos (Nat.zero_le k), Nat.sub_zero]
    cases k with
    | zero => rw [cv_zero]; omega
    | succ k => rw [cv_succ]; show x * g (k + 1) + 0 = 0 + x * g (k + 1); omega
  | y :: ys, 0 => by
    show cv (y :: (ys ++ [x])) g 0 = cv (y :: ys) g 0 + (if ys.length + 1 ≤ 0 then _ else 0)
    rw [cv_zero, cv_zero, if_neg (by omega)]
    omega
  | y :: ys, k + 1 => by
    show cv (y :: (ys ++ [x])) g (k + 1) = cv (y :: ys) g (k + 1) + (if ys.length + 1 ≤ k + 1 then x * g (k + 1 - (ys.length + 1)) else 0)
    rw [cv_succ, cv_succ, cv_snoc x g ys k, Nat.add_sub_add_right]
    by_cases h : ys.length ≤ k
    · rw [if_pos h, if_pos (by omega)]; omega
    · rw [if_neg h, if_neg (by omega)]; omega
/-- the entries so far: i rows, and j places of the next one -/
def J (xs : List Int) (g : Nat → Int) (i j k : Nat) : Int := cv (xs.take i) g k + (if i ≤ k ∧ k < i + j then co xs i * g (k - i) else 0)
theorem J_0 {xs : List Int} {g : Nat → Int} {i k : Nat} : J xs g i 0 k = cv (xs.take i) g k := by
  unfold J
  rw [if_neg (by omega)]
  omega
theorem J_step {xs : List Int} {g : Nat → Int} {i j k : Nat} : (if k = i + j then J xs g i j (i + j) + co xs i * g j else J xs g i j k) = J xs g i (j + 1) k := by
  unfold J
  by_cases h : k = i + j
  · subst h
    rw [if_pos rfl, if_neg (by omega), if_pos (by omega), Nat.add_sub_cancel_left]
    omega
  · rw [if_neg h]
    by_cases c : i ≤ k ∧ k < i + j
    · rw [if_pos c, if_pos (by omega)]
    · rw [if_neg c, if_neg (by omega)]
theorem J_end {xs ys : List Int} {i k : Nat} (hi : i < xs.length) : J xs (co ys) i ys.length k = cv (xs.take (i + 1)) (co ys) k := by
  unfold J
  have e : xs.take (i + 1) = xs.take i ++ [xs[i]] := by rw [List.take_add_one, List.getElem?_eq_getElem hi]; rfl
  have hl : (xs.take i).length = i := by rw [List.length_take]; omega
  rw [e, cv_snoc, hl, co_get hi]
  congr 1
  by_cases c : i ≤ k
  · by_cases d : k < i + ys.length
    · rw [if_pos ⟨c, d⟩, if_pos c]
    · rw [if_neg (by omega), if_pos c, co_far (by omega), Int.mul_zero]
  · rw [if_neg (by omega), if_neg c]
def tab (L : Nat) (f : Nat → Int) : List V := (List.range L).map fun k => V.int (f k)
theorem tab_tb (L : Nat) (f : Nat → Int) : tab L f = (tb L f).map V.int := by
  unfold tab tb
  rw [List.map_map]
  rfl
theorem tab_len (L : Nat) (f : Nat → Int) : (tab L f).length = L := by
  unfold tab
  rw [List.length_map, List.length_range]
theorem tab_get {L : Nat} {f : Nat → Int} {k : Nat} (h : k < L) : (tab L f)[k]? = some (.int (f k)) := by
  unfold tab
  rw [List.getElem?_map, List.getElem?_range h]
  rfl
theorem tab_ext {L : Nat} {f g : Nat → Int} (h : ∀ k, k < L → f k = g k) : tab L f = tab L g := by
  unfold tab
  exact List.map_congr_left fun k hk => by rw [h k (List.mem_range.mp hk)]
theorem tab_none {L : Nat} {f : Nat → Int} {k : Nat} (h : L ≤ k) : (tab L f)[k]? = none := List.getElem?_eq_none (by rw [tab_len]; exact h)
theorem tab_set {L : Nat} {f : Nat → Int} {j : Nat} {v : Int} : (tab L f).set j (.int v) = tab L (fun k => if k = j then v else f k) := by
  apply List.ext_getElem?
  intro k
  by_cases hk : k < L
  · rw [tab_get hk]
    by_cases e : k = j
    · subst e
      rw [List.getElem?_set_self (by rw [tab_len]; exact hk), if_pos rfl]
    · rw [List.getElem?_set_ne (Ne.symm e), tab_get hk, if_neg e]
  · rw [tab_none (Nat.le_of_not_lt hk), List.getElem?_eq_none (by rw [List.length_set, tab_len]; exact Nat.le_of_not_lt hk)]
theorem tab_rep (n : Nat) : List.replicate n (V.int 0) = tab n fun _ => 0 := by
  unfold tab
  rw [List.map_const', List.length_range]
theorem ix_at {n : Nat} {z : Int} {j : Nat} (e : z = (j : Int)) (h : j < n) : ixN n z = some j := by
  rw [e]
  exact Evl.ixN_nat h
theorem at_of {xs : List V} {z : Int} {j : Nat} {v : V} (e : z = (j : Int)) (h : xs[j]? = some v) : atI xs z = some v := by
  rw [e]
  exact atI_nat h
/-- ints of less than 400 bits -/
def sm (x : Int) : Prop := x.natAbs < 2 ^ 4000
theorem sm_mul {x y : Int} (hx : sm x) (hy : sm y) : CMulW x y := wide_mul hx hy (by decide) (by decide) (by decide)
theorem get_int {xs : List Int} {i : Nat} (h : i < xs.length) : (xs.map V.int)[i]? = some (.int (co xs i)) := by
  rw [List.getElem?_map, List.getElem?_eq_getElem h, co_get h]
  rfl
theorem sm_co {xs : List Int} {i : Nat} (h : ∀ x ∈ xs, sm x) (hi : i < xs.length) : sm (co xs i) := by
  rw [co_get hi]
  exact h _ (List.getElem_mem hi)
section
variable {P : Program} {w : World} {K : PySem.W.Frag} {mg : Str → Option Value} {base : Heap}
end
end K65

set_option Elab.async false
set_option linter.all false
set_option maxRecDepth 100000
set_option maxHeartbeats 4000000
namespace K65
open PySem PySem.Spec PyProof.Rows L2 StX RZ MyR SlX OwnR OwnF
/-- a comprehension over zip of two tuples of one length -/
theorem lc_zipT {K : PySem.W.Frag} {a b : Addr} {xs ys : List V} {g : TG} {tt : TT} {te : TE} {vs : List Nat} {σ : L2.St} {H1 : Hp} {D : Addr} {Qd : Hp → Prop} (hl : xs.length = ys.length) (Pv : Nat → Hp → Prop) (h0 : Pv 0 (upd H1 D (.lst []))) (hq : ∀ i H, i ≤ xs.length → Pv i H → SqT K H a xs ∧ SqT K H b ys)
    (hs : ∀ (i : Nat) (x y : V) (T : Addr) (H : Hp), xs[i]? = some x → ys[i]? = some y → Pv i H → H T = none → g (.ref T) (wipe σ vs) (upd H T (.tup [x, y])) fun σ2 H2 => wipe σ2 vs = wipe σ vs ∧ tt σ2 H2 fun b H3 =>
      if b = true then te σ2 H3 fun y H4 => ∃ acc, H4 D = some (.lst acc) ∧ acc.length < sizeLine ∧ Pv (i + 1) (upd H4 D (.lst (acc ++ [y]))) else Pv (i + 1) H3) (hd : ∀ H, Pv xs.length H → Qd H) :
    ∃ W : Nat → Nat → Hp → Prop, (∃ m, W 0 m (upd H1 D (.lst []))) ∧ ∀ i m H, W i m H →
      ((ItzT K a b).stop i H ∧ Qd H) ∨ ((ItzT K a b).go i H ∧ ∃ Nx : Hp → Prop, (∀ H', Nx H' → ∃ m', m' < m ∧ W (i + 1) m' H') ∧ ∀ x H', (ItzT K a b).yld i H x H' → g x (wipe σ vs) H' fun σ2 H2 => wipe σ2 vs = wipe σ vs ∧ tt σ2 H2 fun b H3 =>
        if b = true then te σ2 H3 fun y H4 => ∃ acc, H4 D = some (.lst acc) ∧ acc.length < sizeLine ∧ Nx (upd H4 D (.lst (acc ++ [y]))) else Nx H3) := by
  refine ⟨fun i m H => m = xs.length - i ∧ i ≤ xs.length ∧ Pv i H, ⟨xs.length, by simp, Nat.zero_le _, h0⟩, ?_⟩
  rintro i m H ⟨rfl, hi, p⟩
  obtain ⟨qx, qy⟩ := hq i H hi p
  by_cases hlt : i < xs.length
  · have hlt2 : i < ys.length := by omega
    have hx : xs[i]? = some xs[i] := List.getElem?_eq_getElem hlt
    have hy : ys[i]? = some ys[i] := List.getElem?_eq_getElem hlt2
    refine .inr ⟨⟨xs, ys, _, _, qx, qy, hx, hy⟩, Pv (i + 1), fun H' p' => ⟨xs.length - (i + 1), by omega, rfl, hlt, p'⟩, fun v H' y => ?_⟩
    obtain ⟨T, x', y', rfl, hT, rfl, f1, f2⟩ := y
    exact hs i x' y' T H (f1 xs qx) (f2 ys qy) p hT
  · have e : i = xs.length := by omega
    subst e
    exact .inl ⟨⟨xs, ys, qx, qy, Or.inl (Nat.le_refl _)⟩, hd H p⟩
/-- the sign of the first entry that is not 0 -/
def sg : List Int → Int
  | [] => 1
  | x :: xs => if x = 0 then sg xs else if 0 < x then 1 else -1
theorem sg_cases : ∀ l : List Int, sg l = 1 ∨ sg l = -1
  | [] => .inl rfl
  | x :: xs => by
    unfold sg
    split
    · exact sg_cases xs
    · split
      · exact .inl rfl
      · exact .inr rfl
def part (l : List Int) : Int := (cont l : Int) * sg l
theorem part_abs (l : List Int) : (part l).natAbs = cont l := by
  unfold part
  rw [Int.natAbs_mul]
  rcases sg_cases l with e | e <;> rw [e] <;> simp
theorem sm_cont {l : List Int} (h : ∀ x ∈ l, sm x) : cont l < 2 ^ 4000 := by
  by_cases c : ∃ x ∈ l, x ≠ 0
  · obtain ⟨x, hx, h0⟩ := c
    have h1 := Int.natAbs_dvd_natAbs.mpr (cont_dvd l x hx)
    have h2 := Nat.le_of_dvd (Int.natAbs_pos.mpr h0) h1
    exact Nat.lt_of_le_of_lt h2 (h x hx)
  · have hz : ∀ l : List Int, (∀ x ∈ l, x = 0) → cont l = 0 := by
      intro l
      induction l with
      | nil => intro _; rfl
      | cons y ys ih =>
        intro hl
        show Nat.gcd y.natAbs (cont ys) = 0
        rw [ih fun x hx => hl x (List.mem_cons_of_mem _ hx), hl y List.mem_cons_self]
        rfl
    rw [hz l fun x hx => Classical.byContradiction fun q => c ⟨x, hx, q⟩]
    decide
theorem sm_part {l : List Int} (h : ∀ x ∈ l, sm x) : sm (part l) := by
  show (part l).natAbs < _
  rw [part_abs]
  exact sm_cont h
/-- divided by its content, the first entry that is not 0 above 0 -/
def prim (l : List Int) : List Int := if part l = 0 then l else l.map fun x => x.fdiv (part l)
theorem tb_map (f : Int → Int) (l : List Int) : (tb l.length fun k => f (co l k)) = l.map f := by
  conv => rhs; rw [← tb_co l]
  unfold tb
  rw [List.map_map]
  rfl
section
variable {P : Program} {w : World} {K : PySem.W.Frag} {mg : Str → Option Value} {base : Heap}
def spZero : Sp := fun vs H Q _ => ∃ (t : Addr) (ns : List Int), vs = [.ref t] ∧ H t = some (tp ns) ∧ Q (.bl (!ns.any (· != 0))) H
theorem ok_is_zero_in (T : Facts K mg) : FnOk P w K mg base CX0 1 T.f_is_zero_in T.fd_is_zero_in ["entries"] spZero := by
  refine T.F_is_zero_in.ok sc_is_zero_in (fun vs H Q E h => ?_) (fun cdv A outer s H vs Q E hr h => ?_)
  · obtain ⟨t, ns, rfl, _⟩ := h
    rfl
  · obtain ⟨t, ns, rfl, ht, q⟩ := h
    refine ⟨_, (PSs.nox (pss_one (ps_ret (pe_not (pe_callB (cr_anyTI (by rfl)) (by rfl) T.z_any (by decide +kernel) (pa_cons (pv 0) pa_nil)))))), ?_⟩
    exact ⟨_, rfl, t, ns, rfl, SqT.of ht, _, rfl, q⟩
def spSigned : Sp := fun vs H Q _ => ∃ (t : Addr) (ns : List Int), vs = [.ref t] ∧ H t = some (tp ns) ∧ ns.length ≤ 1000 ∧ (∀ x ∈ ns, sm x) ∧ ∀ H', Same H H' → Q (.int (part ns)) H'
theorem ok_signed_content (T : Facts K mg) : FnOk P w K mg base CX0 1 T.f_signed_content T.fd_signed_content ["entries"] spSigned := by
  refine T.F_signed_content.ok sc_signed_content (fun vs H Q E h => ?_) (fun cdv A outer s H vs Q E hr h => ?_)
  · obtain ⟨t, ns, rfl, _⟩ := h
    rfl
  · obtain ⟨t, ns, rfl, ht, hl, hs, q⟩ := h
    refine ⟨_, (PSs.nox (pss_cons (ps_asg (pe_tup (pa_cons pe_int (pa_cons pe_int pa_nil))) (pg_tup (by rfl) (pgs_cons (pg_name (i := 1) sc_signed_content.nd rfl (.inl rfl)) (pgs_cons (pg_name (i := 2) sc_signed_content.nd rfl (.inl rfl)) pgs_nil))))
    (pss_cons (ps_for PassesOwn.never (by rfl) (pi_range3 (by rfl) T.z_range (pa_cons (pe_op op_sub (pe_callB call_len_seq (by rfl) T.z_len (by decide +kernel) (pa_cons (pv 0) pa_nil)) pe_int) (pa_cons (pe_un un_neg pe_int) (pa_cons (pe_un un_neg pe_int) pa_nil)))) (pg_name (i := 3) sc_signed_content.nd rfl (.inl rfl))
      (pss_cons (ps_set (i := 1) sc_signed_content.nd rfl (.inl rfl) (pe_callBfun cr_gcd (by rfl) T.m_gcd (pa_cons (pv 1) (pa_cons (pe_ix ix_tup (pv 0) (pv 3) (fun _ _ => rfl)) pa_nil))))
      (pss_one (ps_if (pt_cmpR op_ne (pe_ix ix_tup (pv 0) (pv 3) (fun _ _ => rfl)) pe_int (nomark _))
        (pss_one (ps_set (i := 2) sc_signed_content.nd rfl (.inl rfl) (pe_ifExp (pt_cmpR op_gt (pe_ix ix_tup (pv 0) (pv 3) (fun _ _ => rfl)) pe_int (nomark _)) pe_int (pe_un un_neg pe_int))))
        pss_nil))))
    (pss_one (ps_ret (pe_op op_mulW (pv 1) (pv 2))))))), ?_⟩
    refine ⟨(by show 2 ≤ sizeLine; decide), fun p0 n0 => gen_upd H p0 (.tup [.int 0, .int 1]) n0 fun H1 s1 f1 => ?_⟩
    refine ⟨p0, _, rfl, SqT.of f1, rfl, _, _, rfl, _, _, rfl, rfl, ?_⟩
    have ht1 := s1 _ _ ht
    refine ⟨_, rfl, t, _, rfl, .inr (SqT.of ht1), ?_⟩
    rw [List.length_map]
    have eR : RgC ((ns.length : Int) - 1) (-1) (-1) ns.length := by
      have := RgC.neg (i := (ns.length : Int) - 1) (j := -1) (by omega) (by omega) (by omega) (by omega)
      rw [show ((ns.length : Int) - 1 - -1).toNat = ns.length by omega] at this
      exact this
    refine ⟨_, _, rfl, rfl, _, rfl, _, rfl, (ns.length : Int) - 1, -1, -1, ns.length, rfl, eR, for_rangeC (n := ns.length) (fun j σ H' => ∃ y3, σ = [some (.ref t), some (.int ((cont (ns.drop (ns.length - j)) : Nat) : Int)), some (.int (sg (ns.drop (ns.length - j)))), y3] ∧ H' = H1) ⟨none, ?_, rfl⟩ (fun j σ H' hj hP => ?_) (fun σ H' hP => ?_)⟩
    · rw [Nat.sub_zero, List.drop_length]
      rfl
    · obtain ⟨y3, rfl, rfl⟩ := hP
      have e : (ns.length : Int) - 1 + ((j : Nat) : Int) * -1 = ((ns.length - 1 - j : Nat) : Int) := by omega
      have hlt : ns.length - 1 - j < ns.length := by omega
      have ed : ns.drop (ns.length - (j + 1)) = co ns (ns.length - 1 - j) :: ns.drop (ns.length - j) := by
        rw [show ns.length - (j + 1) = ns.length - 1 - j by omega, List.drop_eq_getElem_cons hlt, co_get hlt, show ns.length - 1 - j + 1 = ns.length - j by omega]
      rw [ed]
      generalize ns.drop (ns.length - j) = rest
      have hx := at_of e (get_int hlt)
      generalize co ns (ns.length - 1 - j) = x at hx
      refine ⟨_, rfl, _, rfl, _, rfl, t, _, _, _, rfl, rfl, SqT.of ht1, hx, _, _, rfl, ?_⟩
      refine ⟨_, rfl, _, rfl, t, _, _, _, rfl, rfl, SqT.of ht1, hx, rfl, _, rfl, ?_⟩
      have ec : ((Nat.gcd (((cont rest : Nat) : Int)).natAbs x.natAbs : Nat) : Int) = ((cont (x :: rest) : Nat) : Int) := by
        rw [Int.natAbs_natCast, Nat.gcd_comm]
        rfl
      by_cases c : x = 0
      · rw [decide_eq_true (show V.int x = V.int 0 by rw [c])]
        have es : sg (x :: rest) = sg rest := by
          show (if x = 0 then sg rest else _) = _
          rw [if_pos c]
        refine iteF ⟨some (.int ((ns.length : Int) - 1 + ((j : Nat) : Int) * -1)), ?_, rfl⟩
        rw [← ec, es]
        rfl
      · rw [decide_eq_false fun z => c (V.int.inj z)]
        refine iteT ⟨_, rfl, _, rfl, t, _, _, _, rfl, rfl, SqT.of ht1, hx, x, 0, rfl, rfl, _, rfl, ?_⟩
        by_cases d : 0 < x
        · rw [decide_eq_true d]
          have es : sg (x :: rest) = 1 := by
            show (if x = 0 then sg rest else if 0 < x then 1 else -1) = _
            rw [if_neg c, if_pos d]
          refine iteT ⟨some (.int ((ns.length : Int) - 1 + ((j : Nat) : Int) * -1)), ?_, rfl⟩
          rw [← ec, es]
          rfl
        · rw [decide_eq_false d]
          have es : sg (x :: rest) = -1 := by
            show (if x = 0 then sg rest else if 0 < x then 1 else -1) = _
            rw [if_neg c, if_neg d]
          refine iteF ⟨_, rfl, some (.int ((ns.length : Int) - 1 + ((j : Nat) : Int) * -1)), ?_, rfl⟩
          rw [← ec, es]
          rfl
    · obtain ⟨y3, rfl, rfl⟩ := hP
      rw [Nat.sub_self, List.drop_zero]
      refine ⟨_, rfl, _, rfl, _, _, rfl, rfl, sm_mul (show sm (((cont ns : Nat)) : Int) by show (((cont ns : Nat)) : Int).natAbs < _; rw [Int.natAbs_natCast]; exact sm_cont hs) ?_, q _ s1⟩
      rcases sg_cases ns with e | e <;> rw [e] <;> (show (_ : Nat) < 2 ^ 4000; decide)
def spPrim : Sp := fun vs H Q _ => ∃ (t : Addr) (ns : List Int), vs = [.ref t] ∧ H t = some (tp ns) ∧ ns.length ≤ 1000 ∧ (∀ x ∈ ns, sm x) ∧ ∀ p H', Same H H' → H' p = some (tp (prim ns)) → Q (.ref p) H'
theorem ok_primitive_in (T : Facts K mg) : FnOk P w K mg base CX0 2 T.f_primitive_in T.fd_primitive_in ["entries"] spPrim := by
  have G_signed_content : FnOk P w K mg base CX0 1 T.f_signed_content T.fd_signed_content ["entries"] spSigned := ok_signed_content T
  refine T.F_primitive_in.ok sc_primitive_in (fun vs H Q E h => ?_) (fun cdv A outer s H vs Q E hr h => ?_)
  · obtain ⟨t, ns, rfl, _⟩ := h
    rfl
  · obtain ⟨t, ns, rfl, ht, hl, hs, q⟩ := h
    refine ⟨_, (PSs.nox (pss_cons (ps_set (i := 1) sc_primitive_in.nd rfl (.inr rfl) (pe_call G_signed_content hr (by rfl) T.g_signed_content T.F_signed_content.kp T.b_signed_content .nil pass0 (pa_cons (pv 0) pa_nil)))
    (pss_one (ps_ret (pe_ifExp (pt_cmpR op_eq (pv 1) pe_int (nomark _)) (pv 0) (pe_tupleOf (by rfl) T.z_tuple (pe_lc (own := [("at", 2)]) (g := (gName 2)) (tt := tYes) (by rfl) sc_primitive_in.nd (pi_range1 (by rfl) T.z_range (pa_cons (pe_callB call_len_seq (by rfl) T.z_len (by decide +kernel) (pa_cons (pv 0) pa_nil)) pa_nil)) (blkOk_by (N := N_primitive_in) (sc := defScope s_primitive_in) (by decide +kernel)) (fun _ _ _ _ _ => (pg_name (i := 2) sc_primitive_in.nd rfl (.inl rfl))) (fun _ _ _ _ _ => pts_nil) (fun _ _ _ _ _ => (pe_op op_fdivZ (pe_ix (ix_tup : IxR _ (rIxT K)) (pv 0) (pv 2) (fun _ _ => rfl)) (pv 1)))))))))), ?_⟩
    refine ⟨_, rfl, t, ns, rfl, ht, hl, hs, fun H1 s1 => ⟨_, rfl, rfl, _, rfl, ?_⟩⟩
    have ht1 := s1 _ _ ht
    by_cases c : part ns = 0
    · rw [decide_eq_true (show V.int (part ns) = V.int 0 by rw [c])]
      refine iteT ⟨_, rfl, q t H1 s1 ?_⟩
      unfold prim
      rw [if_pos c]
      exact ht1
    · rw [decide_eq_false fun z => c (V.int.inj z)]
      refine iteF ⟨_, rfl, t, _, rfl, .inr (SqT.of ht1), ?_⟩
      rw [List.length_map]
      have hp := sm_part hs
      have hcd : CDivZ 0 (part ns) := ⟨c, Nat.lt_trans (PySem.Flt.log2_lt_of (k := 4000) (by decide) hp) (by decide)⟩
      refine ⟨ns.length, rfl, by omega, by omega, fun D hD => lc_range (n := (ns.length : Int).toNat) (fun j H' => H' = upd H1 D (.lst (tab j fun k => (co ns k).fdiv (part ns)))) rfl (fun j H' hj hP => ?_) (fun H' hP => ?_)⟩
      · subst hP
        have hj2 : j < ns.length := by omega
        have e : (0 : Int) + (j : Int) = ((j : Nat) : Int) := by omega
        refine ⟨rfl, ⟨_, rfl, _, rfl, t, _, _, _, rfl, rfl, SqT.of (same_upd0 hD _ _ ht1), at_of e (get_int hj2), _, rfl, _, _, rfl, rfl, hcd, _, upd_same, ?_, ?_⟩⟩
        · rw [tab_len]
          exact small1000 (by omega)
        · rw [upd_upd]
          unfold tab
          rw [List.range_succ, List.map_append]
          rfl
      · subst hP
        refine .inl ⟨D, _, rfl, SqL.of upd_same, fun p hp2 => ?_⟩
        refine q p _ (s1.trans ((same_upd0 hD).trans (same_upd0 hp2))) ?_
        rw [upd_same, Int.toNat_natCast, tab_tb]
        unfold prim
        rw [if_neg c]
        show some (HO.tup ((tb ns.length fun k => (co ns k).fdiv (part ns)).map V.int)) = some (HO.tup ((ns.map fun x => x.fdiv (part ns)).map V.int))
        rw [tb_map (fun x => x.fdiv (part ns)) ns]
/-- the sum of one row and a multiple of the other -/
def zs (c : Int) (xs ys : List Int) : List Int := List.zipWith (fun x y => x + c * y) xs ys
end
end K65

set_option Elab.async false
set_option linter.all false
set_option maxRecDepth 100000
set_option maxHeartbeats 4000000
namespace K65
open PySem PySem.Spec PyProof.Rows L2 StX RZ MyR SlX OwnR OwnF
/-! ### == of tuples of ints -/
theorem dpAll_ints {K : PySem.W.Frag} {H : Hp} : ∀ ns : List Int, DpAll K H (ns.map V.int) (ns.map PyData.int)
  | [] => .nil
  | n :: r => .cons (.int n) (dpAll_ints r)
theorem lay_ints : ∀ ns : List Int, PyData.canLayAll0 (ns.map PyData.int) = true
  | [] => rfl
  | n :: r => by
    show (PyData.canLay0 (.int n) && PyData.canLayAll0 (r.map PyData.int)) = true
    rw [lay_ints r]
    rfl
theorem depth_ints : ∀ ns : List Int, PyData.depthAll (ns.map PyData.int) = 0
  | [] => rfl
  | n :: r => by
    show max (PyData.depth (.int n)) (PyData.depthAll (r.map PyData.int)) = 0
    rw [depth_ints r]
    rfl
theorem shaped_tints (ns : List Int) : SeqAt.shaped (.tuple (ns.map PyData.int)) = true := by
  unfold SeqAt.shaped
  rw [show PyData.canLay0 (.tuple (ns.map PyData.int)) = PyData.canLayAll0 (ns.map PyData.int) from rfl, lay_ints]
  rw [show PyData.depth (.tuple (ns.map PyData.int)) = PyData.depthAll (ns.map PyData.int) + 1 from rfl, depth_ints]
  rfl
theorem eqv_tints (ns : List Int) : PyData.eqv (.tuple (ns.map PyData.int)) (.tuple (ns.map PyData.int)) = true := SeqAt.eqv_refl _ (lay_ints ns)
theorem eq_same {K : PySem.W.Frag} {H : Hp} {a b : Addr} {ns : List Int} {Q : VK} (ha : SqT K H a (ns.map V.int)) (hb : SqT K H b (ns.map V.int)) (q : Q (.bl true) H) : rEqD K (.ref a) (.ref b) H Q := by
  refine ⟨_, _, .tup ha (dpAll_ints ns), .tup hb (dpAll_ints ns), shaped_tints ns, shaped_tints ns, ?_⟩
  rw [eqv_tints]
  exact q
/-! ### the properties, the operators -/
section
variable {P : Program} {w : World} {K : PySem.W.Frag} {mg : Str → Option Value} {base : Heap}
def spEnt (C : Addr) : Sp := fun vs H Q _ => ∃ (a : Addr) (ns : List Int), vs = [.ref a] ∧ Fo C H a ns ∧ ∀ t, H t = some (tp ns) → Q (.ref t) H
theorem ok_Form_entries (T : Facts K mg) : FnOk P w K mg base CX0 1 T.f_Form_entries T.fd_Form_entries ["self"] (spEnt T.C_Form) := by
  refine T.F_Form_entries.ok sc_Form_entries (fun vs H Q E h => ?_) (fun cdv A outer s H vs Q E hr h => ?_)
  · obtain ⟨a, ns, rfl, _⟩ := h
    rfl
  · obtain ⟨a, ns, rfl, fa, q⟩ := h
    obtain ⟨dx, t, ha, ht⟩ := fa.slt
    refine ⟨_, (PSs.nox (pss_one (ps_ret (pe_sl (pv 0))))), ?_⟩
    exact ⟨_, rfl, a, T.C_Form, dx, T.a_own_entries, _, 0, .ref t, rfl, ha, T.oc_Form.scl, T.sl_own_entries, rfl, q t ht⟩
def spDeg (C : Addr) : Sp := fun vs H Q _ => ∃ (a : Addr) (ns : List Int), vs = [.ref a] ∧ Fo C H a ns ∧ Q (.int ((ns.length : Int) - 1)) H
theorem ok_Form_degree (T : Facts K mg) : FnOk P w K mg base CX0 1 T.f_Form_degree T.fd_Form_degree ["self"] (spDeg T.C_Form) := by
  refine T.F_Form_degree.ok sc_Form_degree (fun vs H Q E h => ?_) (fun cdv A outer s H vs Q E hr h => ?_)
  · obtain ⟨a, ns, rfl, _⟩ := h
    rfl
  · obtain ⟨a, ns, rfl, fa, q⟩ := h
    obtain ⟨dx, t, ha, ht⟩ := fa.slt
    refine ⟨_, (PSs.nox (pss_one (ps_ret (pe_op op_sub (pe_callB call_len_seq (by rfl) T.z_len (by decide +kernel) (pa_cons (pe_sl (pv 0)) pa_nil)) pe_int)))), ?_⟩
    refine ⟨_, rfl, a, T.C_Form, dx, T.a_own_entries, _, 0, .ref t, rfl, ha, T.oc_Form.scl, T.sl_own_entries, rfl, t, _, rfl, .inr (SqT.of ht), _, _, rfl, rfl, ?_⟩
    rw [List.length_map]
    exact q
def spIsZ (C : Addr) : Sp := fun vs H Q _ => ∃ (a : Addr) (ns : List Int), vs = [.ref a] ∧ Fo C H a ns ∧ Q (.bl (!ns.any (· != 0))) H
theorem ok_Form_is_zero (T : Facts K mg) : FnOk P w K mg base CX0 2 T.f_Form_is_zero T.fd_Form_is_zero ["self"] (spIsZ T.C_Form) := by
  have G_is_zero_in : FnOk P w K mg base CX0 1 T.f_is_zero_in T.fd_is_zero_in ["entries"] spZero := ok_is_zero_in T
  refine T.F_Form_is_zero.ok sc_Form_is_zero (fun vs H Q E h => ?_) (fun cdv A outer s H vs Q E hr h => ?_)
  · obtain ⟨a, ns, rfl, _⟩ := h
    rfl
  · obtain ⟨a, ns, rfl, fa, q⟩ := h
    obtain ⟨dx, t, ha, ht⟩ := fa.slt
    refine ⟨_, (PSs.nox (pss_one (ps_ret (pe_call G_is_zero_in hr (by rfl) T.g_is_zero_in T.F_is_zero_in.kp T.b_is_zero_in .nil pass0 (pa_cons (pe_sl (pv 0)) pa_nil))))), ?_⟩
    exact ⟨_, rfl, a, T.C_Form, dx, T.a_own_entries, _, 0, .ref t, rfl, ha, T.oc_Form.scl, T.sl_own_entries, rfl, t, ns, rfl, ht, q⟩
/-- what is asked of a form's row -/
structure Rw (ns : List Int) : Prop where
  ne : ns ≠ []
  len : ns.length ≤ 100
  sm : ∀ x ∈ ns, sm x
def spPrm (C : Addr) : Sp := fun vs H Q _ => ∃ (a : Addr) (ns : List Int), vs = [.ref a] ∧ Fo C H a ns ∧ Rw ns ∧ ∀ p H', Same H H' → Fo C H' p (prim ns) → Q (.ref p) H'
theorem ok_Form_primitive (T : Facts K mg) : FnOk P w K mg base CX0 8 T.f_Form_primitive T.fd_Form_primitive ["self"] (spPrm T.C_Form) := by
  have G_primitive_in : FnOk P w K mg base CX0 2 T.f_primitive_in T.fd_primitive_in ["entries"] spPrim := ok_primitive_in T
  have G_form_of : FnOk P w K mg base CX0 7 T.f_form_of T.fd_form_of ["entries"] (spMake T.C_Form) := ok_form_of T
  refine T.F_Form_primitive.ok sc_Form_primitive (fun vs H Q E h => ?_) (fun cdv A outer s H vs Q E hr h => ?_)
  · obtain ⟨a, ns, rfl, _⟩ := h
    rfl
  · obtain ⟨a, ns, rfl, fa, r, q⟩ := h
    obtain ⟨dx, t, ha, ht⟩ := fa.slt
    refine ⟨_, (PSs.nox (pss_one (ps_ret (pe_call G_form_of hr (by rfl) T.g_form_of T.F_form_of.kp T.b_form_of .nil pass0 (pa_cons (pe_call G_primitive_in (hr.mono (by decide)) (by rfl) T.g_primitive_in T.F_primitive_in.kp T.b_primitive_in .nil pass0 (pa_cons (pe_sl (pv 0)) pa_nil)) pa_nil))))), ?_⟩
    exact ⟨_, rfl, a, T.C_Form, dx, T.a_own_entries, _, 0, .ref t, rfl, ha, T.oc_Form.scl, T.sl_own_entries, rfl, t, ns, rfl, ht, by have := r.len; omega, r.sm, fun p H' s hp => ⟨p, _, rfl, hp, fun p2 H2 s2 n2 f2 => q p2 H2 (s.trans s2) f2⟩⟩
/-- isinstance(x, Form), x a form -/
theorem isi_form {X : Cx} {C b dy : Addr} {vs : List (Option V)} {H : Hp} {Q : VK} (c : OC X.K C) (hb : Slt H b C dy vs) (q : Q (.bl true) H) : rIsi X.K [.ref b, .ref C] H Q ∨ rIsiSl X.K (.ref C) [.ref b, .ref C] H Q :=
  .inr ⟨b, C, dy, vs, .ref C, true, rfl, rfl, fun w r => r, hb, c.scl, c.sis, c.kself, q⟩
end
end K65

set_option Elab.async false
set_option linter.all false
set_option maxRecDepth 100000
set_option maxHeartbeats 4000000
namespace K65
open PySem PySem.Spec PyProof.Rows L2 StX RZ MyR SlX OwnR OwnF
theorem eqvAll_ints : ∀ xs ys : List Int, PyData.eqvAll (xs.map PyData.int) (ys.map PyData.int) = decide (xs = ys)
  | [], [] => rfl
  | [], _ :: _ => rfl
  | _ :: _, [] => rfl
  | x :: xs, y :: ys => by
    show (PyData.eqv (.int x) (.int y) && PyData.eqvAll (xs.map PyData.int) (ys.map PyData.int)) = _
    rw [eqvAll_ints xs ys]
    show ((x == y) && decide (xs = ys)) = decide (x :: xs = y :: ys)
    by_cases h : x = y
    · by_cases k : xs = ys
      · subst h k
        simp
      · rw [decide_eq_false k, decide_eq_false fun z => k (List.cons.inj z).2, Bool.and_false]
    · rw [decide_eq_false fun z => h (List.cons.inj z).1, beq_eq_false_iff_ne.mpr h, Bool.false_and]
theorem eqv_ints (xs ys : List Int) : PyData.eqv (.tuple (xs.map PyData.int)) (.tuple (ys.map PyData.int)) = decide (xs = ys) := eqvAll_ints xs ys
theorem eq_ints {K : PySem.W.Frag} {H : Hp} {a b : Addr} {xs ys : List Int} {Q : VK} (ha : SqT K H a (xs.map V.int)) (hb : SqT K H b (ys.map V.int)) (q : Q (.bl (decide (xs = ys))) H) : rEqD K (.ref a) (.ref b) H Q := by
  refine ⟨_, _, .tup ha (dpAll_ints xs), .tup hb (dpAll_ints ys), shaped_tints xs, shaped_tints ys, ?_⟩
  rw [eqv_ints]
  exact q
theorem ne_ints {K : PySem.W.Frag} {H : Hp} {a b : Addr} {xs ys : List Int} {Q : VK} (ha : SqT K H a (xs.map V.int)) (hb : SqT K H b (ys.map V.int)) (q : Q (.bl (!decide (xs = ys))) H) : rNeD K (.ref a) (.ref b) H Q := by
  refine ⟨_, _, .tup ha (dpAll_ints xs), .tup hb (dpAll_ints ys), shaped_tints xs, shaped_tints ys, ?_⟩
  rw [eqv_ints]
  exact q
section
variable {P : Program} {w : World} {K : PySem.W.Frag} {mg : Str → Option Value} {base : Heap}
/-- == : with a form, with a tuple -/
def spEqF (C : Addr) : Sp := fun vs H Q _ => ∃ (a : Addr) (xs : List Int) (b : Addr), vs = [.ref a, .ref b] ∧ Fo C H a xs ∧
  ((∃ ys, Fo C H b ys ∧ Q (.bl (decide (xs = ys))) H) ∨ (∃ ys, H b = some (tp ys) ∧ Q (.bl false) H))
theorem ok_Form_eq (T : Facts K mg) : FnOk P w K mg base CX0 1 T.f_Form_eq T.fd_Form_eq ["self", "other"] (spEqF T.C_Form) := by
  refine T.F_Form_eq.ok sc_Form_eq (fun vs H Q E h => ?_) (fun cdv A outer s H vs Q E hr h => ?_)
  · obtain ⟨a, xs, b, rfl, _⟩ := h
    rfl
  · obtain ⟨a, xs, b, rfl, fa, h⟩ := h
    obtain ⟨dx, t, ha, ht⟩ := fa.slt
    refine ⟨_, (PSs.nox (pss_one (ps_ret (pe_and (pe_callB (call_isiF T.C_Form) (by rfl) T.z_isinstance (by decide +kernel) (pa_cons (pv 1) (pa_cons (pe_glob (v := .ref T.C_Form) (by rfl) T.g_Form rfl) pa_nil))) (pe_one (pe_cmpR (op_eqD (hu64 hr)) (pe_sl (pv 0)) (pe_sl (pv 1)) (nomark _))))))), ?_⟩
    rcases h with ⟨ys, fb, q⟩ | ⟨ys, hb, q⟩
    · obtain ⟨dy, u, hb, hu⟩ := fb.slt
      refine ⟨_, rfl, isi_form (X := (cxOf CX0 P w K mg base N_Form_eq (Str.ofString "Form.__eq__") (defScope s_Form_eq) T.f_Form_eq cdv A outer s H E).nox) T.oc_Form hb ⟨true, rfl, iteT ?_⟩⟩
      exact ⟨_, rfl, a, T.C_Form, dx, T.a_own_entries, _, 0, .ref t, rfl, ha, T.oc_Form.scl, T.sl_own_entries, rfl, _, rfl, b, T.C_Form, dy, T.a_own_entries, _, 0, .ref u, rfl, hb, T.oc_Form.scl, T.sl_own_entries, rfl, eq_ints (SqT.of ht) (SqT.of hu) q⟩
    · exact ⟨_, rfl, .inl ⟨.ref b, .ref T.C_Form, .type "tuple", .ref T.C_Form, false, rfl, .own _, .base (.tup hb), T.oc_Form.ktup, false, rfl, iteF q⟩⟩
def spLenF (C : Addr) : Sp := fun vs H Q _ => ∃ (a : Addr) (xs : List Int), vs = [.ref a] ∧ Fo C H a xs ∧ Q (.int xs.length) H
theorem ok_Form_len (T : Facts K mg) : FnOk P w K mg base CX0 1 T.f_Form_len T.fd_Form_len ["self"] (spLenF T.C_Form) := by
  refine T.F_Form_len.ok sc_Form_len (fun vs H Q E h => ?_) (fun cdv A outer s H vs Q E hr h => ?_)
  · obtain ⟨a, xs, rfl, _⟩ := h
    rfl
  · obtain ⟨a, xs, rfl, fa, q⟩ := h
    obtain ⟨dx, t, ha, ht⟩ := fa.slt
    refine ⟨_, (PSs.nox (pss_one (ps_ret (pe_callB call_len_seq (by rfl) T.z_len (by decide +kernel) (pa_cons (pe_sl (pv 0)) pa_nil))))), ?_⟩
    refine ⟨_, rfl, a, T.C_Form, dx, T.a_own_entries, _, 0, .ref t, rfl, ha, T.oc_Form.scl, T.sl_own_entries, rfl, t, _, rfl, .inr (SqT.of ht), ?_⟩
    rw [List.length_map]
    exact q
def spIterF (C : Addr) : Sp := fun vs H Q _ => ∃ (a : Addr) (xs : List Int), vs = [.ref a] ∧ Fo C H a xs ∧ ∀ t it, H t = some (tp xs) → H it = none → Q (.ref it) (upd H it (ItT t it 0))
theorem ok_Form_iter (T : Facts K mg) : FnOk P w K mg base CX0 1 T.f_Form_iter T.fd_Form_iter ["self"] (spIterF T.C_Form) := by
  refine T.F_Form_iter.ok sc_Form_iter (fun vs H Q E h => ?_) (fun cdv A outer s H vs Q E hr h => ?_)
  · obtain ⟨a, xs, rfl, _⟩ := h
    rfl
  · obtain ⟨a, xs, rfl, fa, q⟩ := h
    obtain ⟨dx, t, ha, ht⟩ := fa.slt
    refine ⟨_, (PSs.nox (pss_one (ps_ret (pe_callB call_iterT (by rfl) T.z_iter (by decide +kernel) (pa_cons (pe_sl (pv 0)) pa_nil))))), ?_⟩
    exact ⟨_, rfl, a, T.C_Form, dx, T.a_own_entries, _, 0, .ref t, rfl, ha, T.oc_Form.scl, T.sl_own_entries, rfl, t, _, rfl, SqT.of ht, fun it hn => q t it ht hn⟩
end
end K65

set_option Elab.async false
set_option linter.all false
set_option maxRecDepth 100000
set_option maxHeartbeats 4000000
namespace K65
open PySem PySem.Spec PyProof.Rows L2 StX RZ MyR SlX OwnR OwnF
abbrev dice (x y z : Int) : HO := .lst [.int x, .int y, .int z]
/-- all but the dice is as it was -/
def Sx (a : Addr) (H H' : Hp) : Prop := ∀ b o, b ≠ a → H b = some o → H' b = some o
def Dc (H : Hp) (a : Addr) : Prop := ∃ x y z, H a = some (dice x y z)
theorem Sx.refl (a : Addr) (H : Hp) : Sx a H H := fun _ _ _ h => h
theorem Sx.trans {a : Addr} {H H1 H2 : Hp} (s : Sx a H H1) (t : Sx a H1 H2) : Sx a H H2 := fun b o n h => t b o n (s b o n h)
theorem Sx.of {a : Addr} {H H' : Hp} (s : Same H H') : Sx a H H' := fun b o _ h => s b o h
theorem Sx.upd {a : Addr} {H : Hp} {o : HO} : Sx a H (upd H a o) := fun b u n h => by
  rw [upd_ne n]
  exact h
theorem Dc.same {a : Addr} {H H' : Hp} (d : Dc H a) (s : Same H H') : Dc H' a := by
  obtain ⟨x, y, z, e⟩ := d
  exact ⟨x, y, z, s _ _ e⟩
theorem Dc.ne {a p : Addr} {H : Hp} (d : Dc H a) (n : H p = none) : p ≠ a := fun e => by
  obtain ⟨x, y, z, h⟩ := d
  rw [e, h] at n
  cases n
theorem Sx.free {a p : Addr} {H H' : Hp} (s : Sx a H H') (n : H' p = none) (ne : p ≠ a) : H p = none := by
  cases q : H p with
  | none => rfl
  | some o =>
    rw [s p o ne q] at n
    cases n
section
variable {P : Program} {w : World} {K : PySem.W.Frag} {mg : Str → Option Value} {base : Heap}
theorem cp16 : CPow 10 16 := ⟨by decide, by decide, by decide⟩
theorem cp60 : CPow 10 60 := ⟨by decide, by decide, by decide⟩
theorem cw60 : CMulW (10 ^ Int.toNat 60) (10 ^ Int.toNat 60) := by
  unfold CMulW
  decide +kernel
theorem pos60 : (0 : Int) < 10 ^ Int.toNat 60 * 10 ^ Int.toNat 60 := by decide +kernel
theorem pos_m : (0 : Int) < 1152921504606846697 := by decide
theorem sz3 : 3 ≤ sizeLine := by decide
def spDice (K : PySem.W.Frag) : Sp := fun vs H Q _ => ∃ (a : Addr) (ns : List Int) (k : Nat), vs = [.ref a, .int k] ∧ SqL K H a (ns.map V.int) ∧ ∀ p x y z, H p = none → Q (.ref p) (upd H p (dice x y z))
theorem ok_law_dice (T : Facts K mg) : FnOk P w K mg base CX0 1 T.f_law_dice T.fd_law_dice ["_law_script", "_law_spot"] (spDice K) := by
  refine T.F_law_dice.ok sc_law_dice (fun vs H Q E h => ?_) (fun cdv A outer s H vs Q E hr h => ?_)
  · obtain ⟨a, ns, k, rfl, _⟩ := h
    rfl
  · obtain ⟨a, ns, k, rfl, hS, q⟩ := h
    refine ⟨_, (PSs.nox (pss_cons (ps_set (i := 2) sc_law_dice.nd rfl (.inl rfl) (pe_ifExp (pt_cmpR op_lt (pv 1) (pe_callB call_len_seq (by rfl) T.z_len (by decide +kernel) (pa_cons (pv 0) pa_nil)) (nomark _)) (pe_callTy call_int1 (by rfl) T.z_int (by decide +kernel) (pa_cons (pe_ix ix_list (pv 0) (pv 1) (fun _ _ => rfl)) pa_nil)) (pe_op op_add (pe_op op_mul pe_int (pv 1)) pe_int)))
    (pss_cons (ps_set (i := 3) sc_law_dice.nd rfl (.inl rfl) (pe_op op_mod (pe_callB (call_max2 (by rfl)) (by rfl) T.z_max (by decide +kernel) (pa_cons pe_int (pa_cons (pe_op op_sub (pe_callB call_abs (by rfl) T.z_abs (by decide +kernel) (pa_cons (pv 2) pa_nil)) (pe_op op_pow pe_int pe_int)) pa_nil))) (pe_op op_mulW (pe_op op_pow pe_int pe_int) (pe_op op_pow pe_int pe_int))))
    (pss_one (ps_ret (pe_lst (pa_cons (pv 3) (pa_cons (pe_op op_add (pe_op op_add (pe_op op_add (pe_op op_mul (pe_op op_mod (pe_callB call_abs (by rfl) T.z_abs (by decide +kernel) (pa_cons (pv 2) pa_nil)) pe_int) pe_int) (pe_op op_mul pe_int (pv 1))) (pe_op op_mul pe_int (pe_callTy call_int1 (by rfl) T.z_int (by decide +kernel) (pa_cons (pe_cmpR op_lt (pv 2) pe_int (nomark _)) pa_nil)))) pe_int) (pa_cons pe_int pa_nil))))))))), ?_⟩
    refine ⟨.int k, rfl, .ref a, rfl, a, ns.map V.int, rfl, .inl hS, k, _, rfl, rfl, _, rfl, ?_⟩
    rw [List.length_map]
    by_cases h1 : (k : Int) < (ns.length : Int)
    · rw [decide_eq_true h1]
      have hj : k < ns.length := by omega
      refine iteT ⟨.ref a, rfl, .int k, rfl, a, ns.map V.int, k, .int ns[k], rfl, rfl, hS, atI_nat (by rw [List.getElem?_map, List.getElem?_eq_getElem hj]; rfl), .inl ⟨_, rfl, ?_⟩⟩
      refine ⟨.int ns[k], rfl, _, rfl, 10, 16, rfl, rfl, cp16, _, _, rfl, rfl, 0, _, rfl, 10, 60, rfl, rfl, cp60, 10, 60, rfl, rfl, cp60, _, _, rfl, rfl, cw60, _, _, rfl, rfl, pos60, ?_⟩
      refine ⟨_, rfl, .int ns[k], rfl, _, rfl, _, _, rfl, rfl, pos_m, _, _, rfl, rfl, .inr ⟨by decide, by decide⟩, .int k, rfl, _, _, rfl, rfl, .inl ⟨by decide, by decide⟩, _, _, rfl, rfl, .int ns[k], rfl, _, _, rfl, rfl, .inr ⟨_, rfl, _, _, rfl, rfl, .inl ⟨by decide, by decide⟩, _, _, rfl, rfl, _, _, rfl, rfl, ?_⟩⟩
      exact ⟨sz3, fun p hp => q p _ _ _ hp⟩
    · rw [decide_eq_false h1]
      refine iteF ⟨.int k, rfl, _, _, rfl, rfl, .inl ⟨by decide, by decide⟩, _, _, rfl, rfl, ?_⟩
      refine ⟨_, rfl, _, rfl, 10, 16, rfl, rfl, cp16, _, _, rfl, rfl, 0, _, rfl, 10, 60, rfl, rfl, cp60, 10, 60, rfl, rfl, cp60, _, _, rfl, rfl, cw60, _, _, rfl, rfl, pos60, ?_⟩
      refine ⟨_, rfl, _, rfl, _, rfl, _, _, rfl, rfl, pos_m, _, _, rfl, rfl, .inr ⟨by decide, by decide⟩, .int k, rfl, _, _, rfl, rfl, .inl ⟨by decide, by decide⟩, _, _, rfl, rfl, _, rfl, _, _, rfl, rfl, .inr ⟨_, rfl, _, _, rfl, rfl, .inl ⟨by decide, by decide⟩, _, _, rfl, rfl, _, _, rfl, rfl, ?_⟩⟩
      exact ⟨sz3, fun p hp => q p _ _ _ hp⟩
def spRoll : Sp := fun vs H Q _ => ∃ (a : Addr) (x y z n : Int), vs = [.ref a, .int n] ∧ H a = some (dice x y z) ∧ 0 < n ∧ n.natAbs.log2 < 9000 ∧ ∀ r x' z', 0 ≤ r → r < n → Q (.int r) (upd H a (dice x' y z'))
theorem ok_law_roll (T : Facts K mg) : FnOk P w K mg base CX0 1 T.f_law_roll T.fd_law_roll ["_law_dice_here", "_law_total"] spRoll := by
  refine T.F_law_roll.ok sc_law_roll (fun vs H Q E h => ?_) (fun cdv A outer s H vs Q E hr h => ?_)
  · obtain ⟨a, x, y, z, n, rfl, _⟩ := h
    rfl
  · obtain ⟨a, x, y, z, n, rfl, hd, h0, h1, q⟩ := h
    have hS : SqL K H a [.int x, .int y, .int z] := SqL.of hd
    refine ⟨_, (PSs.nox (pss_cons (ps_if (pt_cmpR op_gt (pe_ix ix_list (pv 0) pe_int (fun _ _ => rfl)) pe_int (nomark _))
      (pss_cons (ps_set (i := 2) sc_law_roll.nd rfl (.inl rfl) (pe_op op_mod (pe_callTy call_int1 (by rfl) T.z_int (by decide +kernel) (pa_cons (pe_ix ix_list (pv 0) pe_int (fun _ _ => rfl)) pa_nil)) (pv 1)))
      (pss_cons (ps_asg (pe_op op_fdivW (pe_ix ix_list (pv 0) pe_int (fun _ _ => rfl)) (pv 1)) (pg_sub (pv 0) pe_int set_list))
      (pss_one (ps_ret (pv 2)))))
      pss_nil)
    (pss_cons (ps_asg (pe_op op_add (pe_ix ix_list (pv 0) pe_int (fun _ _ => rfl)) pe_int) (pg_sub (pv 0) pe_int set_list))
    (pss_cons (ps_set (i := 3) sc_law_roll.nd rfl (.inl rfl) (pe_op op_mod (pe_callTy call_int1 (by rfl) T.z_int (by decide +kernel) (pa_cons (pe_op op_add (pe_ix ix_list (pv 0) pe_int (fun _ _ => rfl)) (pe_op op_mul pe_int (pe_ix ix_list (pv 0) pe_int (fun _ _ => rfl)))) pa_nil)) pe_int))
    (pss_cons (ps_set (i := 4) sc_law_roll.nd rfl (.inl rfl) (pe_op op_add (pe_op op_mul (pe_op op_mod (pe_callTy call_int1 (by rfl) T.z_int (by decide +kernel) (pa_cons (pe_op op_add (pe_op op_mul (pv 3) (pv 3)) (pe_op op_mul pe_int (pe_ix ix_list (pv 0) pe_int (fun _ _ => rfl)))) pa_nil)) pe_int) pe_int) (pv 3)))
    (pss_one (ps_ret (pe_op op_mod (pe_callTy call_int1 (by rfl) T.z_int (by decide +kernel) (pa_cons (pe_op op_fdivW (pv 4) pe_int) pa_nil)) (pv 1))))))))), ?_⟩
    refine ⟨.ref a, rfl, a, _, 0, .int x, rfl, rfl, hS, atI_nat (j := 0) rfl, x, 0, rfl, rfl, decide (0 < x), rfl, ite2 (fun _ => ?_) (fun _ => ?_)⟩
    · refine ⟨.ref a, rfl, a, _, 0, .int x, rfl, rfl, hS, atI_nat (j := 0) rfl, .inl ⟨x, rfl, .int n, rfl, x, n, rfl, rfl, h0, ?_⟩⟩
      refine ⟨.ref a, rfl, a, _, 0, .int x, rfl, rfl, hS, atI_nat (j := 0) rfl, .int n, rfl, x, n, rfl, rfl, ⟨h0, h1⟩, ?_⟩
      refine ⟨.ref a, rfl, a, _, 0, 0, rfl, rfl, hd, rfl, ?_⟩
      exact ⟨_, rfl, q (x % n) (x / n) z (Int.emod_nonneg _ (by omega)) (Int.emod_lt_of_pos _ h0)⟩
    · refine ⟨.ref a, rfl, a, _, 2, .int z, rfl, rfl, hS, atI_nat (j := 2) rfl, z, 1, rfl, rfl, ?_⟩
      refine ⟨.ref a, rfl, a, _, 2, 2, rfl, rfl, hd, rfl, ?_⟩
      have hd' : (upd H a (dice x y (z + 1))) a = some (dice x y (z + 1)) := upd_same
      have hS' : SqL K (upd H a (dice x y (z + 1))) a [.int x, .int y, .int (z + 1)] := SqL.of hd'
      refine ⟨.ref a, rfl, a, _, 1, .int y, rfl, rfl, hS', atI_nat (j := 1) rfl, .ref a, rfl, a, _, 2, .int (z + 1), rfl, rfl, hS', atI_nat (j := 2) rfl, _, _, rfl, rfl, .inl ⟨by decide, by decide⟩, _, _, rfl, rfl, .inl ⟨_, rfl, _, _, rfl, rfl, (by decide : (0 : Int) < 2305843009213691579), ?_⟩⟩
      have b0 := Int.emod_nonneg (y + 92821991 * (z + 1)) (show (2305843009213691579 : Int) ≠ 0 by decide)
      have b1 := Int.emod_lt_of_pos (y + 92821991 * (z + 1)) (show (0 : Int) < 2305843009213691579 by decide)
      refine ⟨_, rfl, _, rfl, _, _, rfl, rfl, .inl ⟨Int.lt_of_lt_of_le (by decide) b0, Int.lt_trans b1 (by decide)⟩, .ref a, rfl, a, _, 2, .int (z + 1), rfl, rfl, hS', atI_nat (j := 2) rfl, _, _, rfl, rfl, .inl ⟨by decide, by decide⟩, _, _, rfl, rfl, .inl ⟨_, rfl, _, _, rfl, rfl, (by decide : (0 : Int) < 2305843009213692227), _, _, rfl, rfl, .inr ⟨by decide, by decide⟩, _, rfl, _, _, rfl, rfl, ?_⟩⟩
      refine ⟨_, rfl, _, _, rfl, rfl, ⟨by decide, by decide +kernel⟩, .inl ⟨_, rfl, .int n, rfl, _, _, rfl, rfl, h0, ?_⟩⟩
      exact q _ x (z + 1) (Int.emod_nonneg _ (by omega)) (Int.emod_lt_of_pos _ h0)
def spRoll2 : Sp := fun vs H Q _ => ∃ (a : Addr) (n : Int), vs = [.ref a, .int n] ∧ Dc H a ∧ 0 < n ∧ n.natAbs.log2 < 9000 ∧ ∀ (r : Nat) H', (r : Int) < n → Sx a H H' → Dc H' a → Q (.int r) H'
theorem roll2 : ∀ vs H Q E, spRoll2 vs H Q E → spRoll vs H Q E := fun vs H Q E h => by
  obtain ⟨a, n, rfl, ⟨x, y, z, e⟩, h0, h1, q⟩ := h
  refine ⟨a, x, y, z, n, rfl, e, h0, h1, fun r x' z' r0 r1 => ?_⟩
  obtain ⟨j, rfl⟩ := Int.eq_ofNat_of_zero_le r0
  exact q j _ r1 Sx.upd ⟨x', y, z', upd_same⟩
def spNear : Sp := fun vs H Q _ => ∃ (a : Addr) (m : Int), vs = [.ref a, .int m] ∧ Dc H a ∧ 0 ≤ m ∧ m ≤ 10 ^ 15 ∧ ∀ r H', -m ≤ r → r ≤ m → Sx a H H' → Dc H' a → Q (.int r) H'
theorem ok_law_near (T : Facts K mg) : FnOk P w K mg base CX0 2 T.f_law_near T.fd_law_near ["_law_dice_here", "_law_most"] spNear := by
  have G_law_roll : FnOk P w K mg base CX0 1 T.f_law_roll T.fd_law_roll ["_law_dice_here", "_law_total"] spRoll2 := (ok_law_roll T).imp roll2
  refine T.F_law_near.ok sc_law_near (fun vs H Q E h => ?_) (fun cdv A outer s H vs Q E hr h => ?_)
  · obtain ⟨a, m, rfl, _⟩ := h
    rfl
  · obtain ⟨a, m, rfl, hd, h0, h1, q⟩ := h
    refine ⟨_, (PSs.nox (pss_one (ps_ret (pe_op op_sub (pe_call G_law_roll hr (by rfl) T.g_law_roll T.F_law_roll.kp T.b_law_roll .nil pass0 (pa_cons (pv 0) (pa_cons (pe_op op_add (pe_op op_mul pe_int (pv 1)) pe_int) pa_nil))) (pv 1))))), ?_⟩
    have e15 : (10 : Int) ^ 15 = 1000000000000000 := by decide
    rw [e15] at h1
    refine ⟨_, rfl, _, rfl, _, _, rfl, rfl, .inl ⟨by decide, by decide⟩, _, _, rfl, rfl, a, _, rfl, hd, (by show 0 < 2 * m + 1; omega), ?_, fun r H' hr s d => ⟨_, rfl, _, _, rfl, rfl, ?_⟩⟩
    · refine Nat.lt_trans (PySem.Flt.log2_lt_of (k := 60) (by decide) ?_) (by decide)
      show (2 * m + 1).natAbs < 2 ^ 60
      omega
    · have hr' : (r : Int) < 2 * m + 1 := hr
      exact q _ H' (by omega) (by omega) s d
/-! ### the law's own gcd -/
def spLGcd : Sp := fun vs H Q _ => ∃ t b : Int, vs = [.int t, .int b] ∧ Q (.int ((Nat.gcd t.natAbs b.natAbs : Nat) : Int)) H
def yOf : L2.St → Nat
  | [_, some (.int y)] => y.toNat
  | _ => 0
theorem abs_nat (i : Int) : (if i < 0 then -i else i) = (i.natAbs : Int) := by split <;> omega
theorem ok_law_gcd (T : Facts K mg) : FnOk P w K mg base CX0 1 T.f_law_gcd T.fd_law_gcd ["_law_one", "_law_other"] spLGcd := by
  refine T.F_law_gcd.ok sc_law_gcd (fun vs H Q E h => ?_) (fun cdv A outer s H vs Q E hr h => ?_)
  · obtain ⟨t, b, rfl, _⟩ := h
    rfl
  · obtain ⟨t, b, rfl, q⟩ := h
    refine ⟨_, (PSs.nox (pss_cons (ps_par (i := 0) (j := 1) (by rfl) sc_law_gcd.nd rfl rfl (by decide) rfl rfl (pa_cons (pe_callB call_abs (by rfl) T.z_abs (by decide +kernel) (pa_cons (pv 0) pa_nil)) (pa_cons (pe_callB call_abs (by rfl) T.z_abs (by decide +kernel) (pa_cons (pv 1) pa_nil)) pa_nil)) (by rfl))
    (pss_cons (ps_while PassesOwn.never (pt_cmpR op_gt (pv 1) pe_int (nomark _))
      (pss_one (ps_par (i := 0) (j := 1) (by rfl) sc_law_gcd.nd rfl rfl (by decide) rfl rfl (pa_cons (pv 1) (pa_cons (pe_op op_mod (pe_callTy call_int1 (by rfl) T.z_int (by decide +kernel) (pa_cons (pv 0) pa_nil)) (pv 1)) pa_nil)) (by rfl))))
    (pss_one (ps_ret (pv 0)))))), ?_⟩
    refine ⟨_, rfl, t, rfl, _, rfl, b, rfl, _, _, rfl, ?_⟩
    rw [abs_nat, abs_nat]
    refine while_by (fun σ H' => ∃ x y : Nat, σ = [some (.int x), some (.int y)] ∧ Nat.gcd x y = Nat.gcd t.natAbs b.natAbs ∧ H' = H) (fun σ _ => yOf σ) ⟨_, _, rfl, rfl, rfl⟩ (fun σ H' hP => ?_) (fun σ H' Q1 Q2 hQ h => ?_)
    · obtain ⟨x, y, rfl, hg, rfl⟩ := hP
      refine ⟨_, rfl, _, _, rfl, rfl, _, rfl, ?_⟩
      by_cases c : 0 < (y : Int)
      · rw [decide_eq_true c]
        refine iteT ⟨_, rfl, _, rfl, .inl ⟨_, rfl, _, rfl, _, _, rfl, rfl, c, _, _, rfl, ?_⟩⟩
        have e : (x : Int) % (y : Int) = ((x % y : Nat) : Int) := (Int.natCast_emod x y).symm
        refine ⟨⟨y, x % y, ?_, ?_, rfl⟩, ?_⟩
        · show [some (V.int y), some (V.int ((x : Int) % (y : Int)))] = _
          rw [e]
        · rw [← hg, Nat.gcd_comm x y, Nat.gcd_rec y x, Nat.gcd_comm]
        · show ((x : Int) % (y : Int)).toNat < (y : Int).toNat
          rw [e]
          have := Nat.mod_lt x (show y > 0 by omega)
          omega
      · rw [decide_eq_false c]
        have ey : y = 0 := by omega
        subst ey
        refine iteF ⟨_, rfl, ?_⟩
        rw [← hg, Nat.gcd_zero_right] at q
        exact q
    · obtain ⟨v, e, x1, x2, e1, e2, k, e3, h⟩ := h
      exact ⟨v, e, x1, x2, e1, e2, k, e3, hQ _ _ h⟩
end
end K65

set_option Elab.async false
set_option linter.all false
set_option maxRecDepth 100000
set_option maxHeartbeats 4000000
namespace K65
open PySem PySem.Spec PyProof.Rows L2 StX RZ MyR SlX OwnR OwnF
theorem cont_snoc (x : Int) : ∀ l : List Int, cont (l ++ [x]) = Nat.gcd (cont l) x.natAbs
  | [] => by
    show Nat.gcd x.natAbs 0 = Nat.gcd 0 x.natAbs
    rw [Nat.gcd_zero_right, Nat.gcd_zero_left]
  | y :: ys => by
    show Nat.gcd y.natAbs (cont (ys ++ [x])) = Nat.gcd (Nat.gcd y.natAbs (cont ys)) x.natAbs
    rw [cont_snoc x ys, Nat.gcd_assoc]
theorem take_snoc {xs : List Int} {i : Nat} (h : i < xs.length) : xs.take (i + 1) = xs.take i ++ [co xs i] := by
  rw [List.take_add_one, List.getElem?_eq_getElem h, co_get h]
  rfl
theorem int_get {xs : List Int} {i : Nat} {x : V} (h : (xs.map V.int)[i]? = some x) : i < xs.length ∧ x = .int (co xs i) := by
  have hi : i < xs.length := by
    have := (List.getElem?_eq_some_iff.mp h).1
    rw [List.length_map] at this
    exact this
  rw [get_int hi] at h
  cases h
  exact ⟨hi, rfl⟩
theorem tab_snoc (n : Nat) (f : Nat → Int) : tab n f ++ [V.int (f n)] = tab (n + 1) f := by
  unfold tab
  rw [List.range_succ, List.map_append]
  rfl
theorem zs_tb {c : Int} {xs ys : List Int} (hl : xs.length = ys.length) : (tb xs.length fun k => co xs k + c * co ys k) = zs c xs ys := by
  refine co_inj (by rw [tb_len]; unfold zs; rw [List.length_zipWith, hl, Nat.min_self]) fun k => ?_
  rw [co_tb]
  unfold zs
  by_cases hk : k < xs.length
  · rw [if_pos hk, co_get (l := List.zipWith _ _ _) (by rw [List.length_zipWith]; omega), List.getElem_zipWith, co_get hk, co_get (by omega)]
  · rw [if_neg hk, co_far (by rw [List.length_zipWith]; omega)]
section
variable {P : Program} {w : World} {K : PySem.W.Frag} {mg : Str → Option Value} {base : Heap}
def spShared : Sp := fun vs H Q _ => ∃ (t : Addr) (ns : List Int), vs = [.ref t] ∧ H t = some (tp ns) ∧ Q (.int (cont ns : Nat)) H
def spSharedC (K : PySem.W.Frag) : Sp := fun vs H Q _ => ∃ (t : Addr) (ns : List Int), vs = [.ref t] ∧ (SqT K H t (ns.map V.int) ∨ SqL K H t (ns.map V.int)) ∧ Q (.int (cont ns : Nat)) H
theorem ok_law_sharedC (T : Facts K mg) : FnOk P w K mg base CX0 2 T.f_law_shared T.fd_law_shared ["_law_numbers"] (spSharedC K) := by
  have G_law_gcd : FnOk P w K mg base CX0 1 T.f_law_gcd T.fd_law_gcd ["_law_one", "_law_other"] spLGcd := ok_law_gcd T
  refine T.F_law_shared.ok sc_law_shared (fun vs H Q E h => ?_) (fun cdv A outer s H vs Q E hr h => ?_)
  · obtain ⟨t, ns, rfl, _⟩ := h
    rfl
  · obtain ⟨t, ns, rfl, ht, q⟩ := h
    refine ⟨_, (PSs.nox (pss_cons (ps_set (i := 1) sc_law_shared.nd rfl (.inl rfl) pe_int)
    (pss_cons (ps_for PassesOwn.never (by rfl) (SeqE.PI_or (pi_tup (pv 0)) (pi_list (pv 0))) (pg_name (i := 2) sc_law_shared.nd rfl (.inl rfl))
      (pss_one (ps_set (i := 1) sc_law_shared.nd rfl (.inl rfl) (pe_call G_law_gcd hr (by rfl) T.g_law_gcd T.F_law_gcd.kp T.b_law_gcd .nil pass0 (pa_cons (pv 1) (pa_cons (pv 2) pa_nil))))))
    (pss_one (ps_ret (pv 1)))))), ?_⟩
    rcases ht with ht | ht
    · refine .inl ⟨_, rfl, t, rfl, ⟨_, ht⟩, for_tup (xs := ns.map V.int) (fun i σ H' => ∃ y, σ = [some (.ref t), some (.int ((cont (ns.take i) : Nat) : Int)), y] ∧ H' = H) ⟨none, rfl, rfl⟩ (fun i σ H' _ hP => by rw [hP.choose_spec.2]; exact ht) (fun i x σ H' hx hP => ?_) (fun σ H' hP => ?_)⟩
      · obtain ⟨y, rfl, rfl⟩ := hP
        obtain ⟨hi, rfl⟩ := int_get hx
        refine ⟨_, rfl, _, rfl, _, _, rfl, some (.int (co ns i)), ?_, rfl⟩
        rw [take_snoc hi, cont_snoc]
        rfl
      · obtain ⟨y, rfl, rfl⟩ := hP
        rw [List.length_map, List.take_length]
        exact ⟨_, rfl, q⟩
    · refine .inr ⟨_, rfl, t, rfl, ⟨_, ht⟩, for_list (xs := ns.map V.int) (fun i σ H' => ∃ y, σ = [some (.ref t), some (.int ((cont (ns.take i) : Nat) : Int)), y] ∧ H' = H) ⟨none, rfl, rfl⟩ (fun i σ H' _ hP => by rw [hP.choose_spec.2]; exact ht) (fun i x σ H' hx hP => ?_) (fun σ H' hP => ?_)⟩
      · obtain ⟨y, rfl, rfl⟩ := hP
        obtain ⟨hi, rfl⟩ := int_get hx
        refine ⟨_, rfl, _, rfl, _, _, rfl, some (.int (co ns i)), ?_, rfl⟩
        rw [take_snoc hi, cont_snoc]
        rfl
      · obtain ⟨y, rfl, rfl⟩ := hP
        rw [List.length_map, List.take_length]
        exact ⟨_, rfl, q⟩
theorem ok_law_shared (T : Facts K mg) : FnOk P w K mg base CX0 2 T.f_law_shared T.fd_law_shared ["_law_numbers"] spShared := (ok_law_sharedC T).imp fun vs H Q E h => by
  obtain ⟨t, ns, rfl, ht, q⟩ := h
  exact ⟨t, ns, rfl, .inl (SqT.of ht), q⟩
def spPlus : Sp := fun vs H Q _ => ∃ (t u : Addr) (xs ys : List Int), vs = [.ref t, .ref u] ∧ H t = some (tp xs) ∧ H u = some (tp ys) ∧ xs.length = ys.length ∧ xs.length ≤ 100 ∧ ∀ p H', Same H H' → H p = none → H' p = some (tp (zs 1 xs ys)) → Q (.ref p) H'
theorem ok_law_plus (T : Facts K mg) : FnOk P w K mg base CX0 1 T.f_law_plus T.fd_law_plus ["_law_one", "_law_other"] spPlus := by
  refine T.F_law_plus.ok sc_law_plus (fun vs H Q E h => ?_) (fun cdv A outer s H vs Q E hr h => ?_)
  · obtain ⟨t, u, xs, ys, rfl, _⟩ := h
    rfl
  · obtain ⟨t, u, xs, ys, rfl, ht, hu, hl, hlt, q⟩ := h
    refine ⟨_, (PSs.nox (pss_one (ps_ret (pe_tupleOf (by rfl) T.z_tuple (pe_lc (own := [("_law_first", 2), ("_law_second", 3)]) (g := (gTup K 2 (gCons (gName 2) (gCons (gName 3) gNil)))) (tt := tYes) (by rfl) sc_law_plus.nd (pi_zipA (by rfl) T.z_zip (pa_cons (pv 0) (pa_cons (pv 1) pa_nil))) (blkOk_by (N := N_law_plus) (sc := defScope s_law_plus) (by decide +kernel)) (fun _ _ _ _ _ => (pg_tup (by rfl) (pgs_cons (pg_name (i := 2) sc_law_plus.nd rfl (.inl rfl)) (pgs_cons (pg_name (i := 3) sc_law_plus.nd rfl (.inl rfl)) pgs_nil)))) (fun _ _ _ _ _ => pts_nil) (fun _ _ _ _ _ => (pe_op op_add (pv 2) (pv 3)))))))), ?_⟩
    refine ⟨_, rfl, _, rfl, t, u, _, _, rfl, .inr ⟨SqT.of ht, SqT.of hu, fun D hD => ?_⟩⟩
    refine lc_zipT (xs := xs.map V.int) (ys := ys.map V.int) (by rw [List.length_map, List.length_map, hl]) (fun j H' => Same H H' ∧ H' D = some (.lst (tab j fun k => co xs k + 1 * co ys k))) ⟨same_upd0 hD, upd_same⟩ (fun j H' _ hP => ⟨SqT.of (hP.1 _ _ ht), SqT.of (hP.1 _ _ hu)⟩) (fun j x y A H' hx hy hP hA => ?_) (fun H' hP => ?_)
    · obtain ⟨sH, hD'⟩ := hP
      obtain ⟨hj, rfl⟩ := int_get hx
      obtain ⟨_, rfl⟩ := int_get hy
      have sA := same_upd0 (o := .tup [.int (co xs j), .int (co ys j)]) hA
      refine ⟨A, _, rfl, SqT.of upd_same, rfl, _, _, rfl, _, _, rfl, rfl, rfl, _, rfl, _, rfl, _, _, rfl, rfl, _, sA _ _ hD', ?_, fun b o e => ?_, ?_⟩
      · rw [tab_len]
        exact small1000 (by omega)
      · rw [upd_ne (ne_of_none e hD)]
        exact sA _ _ (sH _ _ e)
      · rw [upd_same, ← tab_snoc]
        show some (HO.lst (tab j _ ++ [V.int (co xs j + co ys j)])) = some (HO.lst (tab j _ ++ [V.int (co xs j + 1 * co ys j)]))
        rw [Int.one_mul]
    · obtain ⟨sH, hD'⟩ := hP
      rw [List.length_map] at hD'
      refine .inl ⟨D, _, rfl, SqL.of hD', fun p hp2 => ?_⟩
      refine q p _ (sH.trans (same_upd0 hp2)) (Same.free sH hp2) ?_
      rw [upd_same, tab_tb, zs_tb hl]
def spScaled : Sp := fun vs H Q _ => ∃ (t : Addr) (xs : List Int) (c : Int), vs = [.ref t, .int c] ∧ H t = some (tp xs) ∧ xs.length ≤ 100 ∧ (∀ x ∈ xs, sm x) ∧ sm c ∧ ∀ p H', Same H H' → H p = none → H' p = some (tp (xs.map fun x => c * x)) → Q (.ref p) H'
theorem ok_law_scaled (T : Facts K mg) : FnOk P w K mg base CX0 1 T.f_law_scaled T.fd_law_scaled ["_law_form_here", "_law_factor"] spScaled := by
  refine T.F_law_scaled.ok sc_law_scaled (fun vs H Q E h => ?_) (fun cdv A outer s H vs Q E hr h => ?_)
  · obtain ⟨t, xs, c, rfl, _⟩ := h
    rfl
  · obtain ⟨t, xs, c, rfl, ht, hl, hs, hc, q⟩ := h
    refine ⟨_, (PSs.nox (pss_one (ps_ret (pe_tupleOf (by rfl) T.z_tuple (pe_lc (own := [("_law_entry", 2)]) (g := (gName 2)) (tt := tYes) (by rfl) sc_law_scaled.nd (pi_tup (pv 0)) (blkOk_by (N := N_law_scaled) (sc := defScope s_law_scaled) (by decide +kernel)) (fun _ _ _ _ _ => (pg_name (i := 2) sc_law_scaled.nd rfl (.inl rfl))) (fun _ _ _ _ _ => pts_nil) (fun _ _ _ _ _ => (pe_op op_mulW (pv 1) (pv 2)))))))), ?_⟩
    refine ⟨_, rfl, t, rfl, ⟨_, SqT.of ht⟩, fun D hD => lc_tup (xs := xs.map V.int) (fun j H' => H' = upd H D (.lst (tab j fun k => c * co xs k))) rfl (fun j H' _ hP => ?_) (fun j x H' hx hP => ?_) (fun H' hP => ?_)⟩
    · rw [hP]
      exact SqT.of (same_upd0 hD _ _ ht)
    · subst hP
      obtain ⟨hj, rfl⟩ := int_get hx
      refine ⟨rfl, ⟨_, rfl, _, rfl, _, _, rfl, rfl, sm_mul hc (sm_co hs hj), _, upd_same, ?_, ?_⟩⟩
      · rw [tab_len]
        exact small1000 (by omega)
      · rw [upd_upd, ← tab_snoc]
    · subst hP
      rw [List.length_map, tab_tb, tb_map (fun x => c * x) xs]
      refine .inl ⟨D, _, rfl, SqL.of upd_same, fun p hp2 => ?_⟩
      exact q p _ ((same_upd0 hD).trans (same_upd0 hp2)) (Same.free (same_upd0 hD) hp2) upd_same
end
end K65

set_option Elab.async false
set_option linter.all false
set_option maxRecDepth 100000
set_option maxHeartbeats 4000000
namespace K65
open PySem PySem.Spec PyProof.Rows L2 StX RZ MyR SlX OwnR OwnF EnumT
section
variable {P : Program} {w : World} {K : PySem.W.Frag} {mg : Str → Option Value} {base : Heap}
def spProd : Sp := fun vs H Q _ => ∃ (a b : Addr) (xs ys : List Int), vs = [.ref a, .ref b] ∧ H a = some (tp xs) ∧ H b = some (tp ys) ∧ xs ≠ [] ∧ ys ≠ [] ∧ xs.length ≤ 100 ∧ ys.length ≤ 100 ∧ (∀ x ∈ xs, sm x) ∧ (∀ x ∈ ys, sm x) ∧ ∀ p H', Same H H' → H p = none → H' p = some (tp (ml xs ys)) → Q (.ref p) H'
theorem ok_law_product (T : Facts K mg) : FnOk P w K mg base CX0 1 T.f_law_product T.fd_law_product ["_law_one", "_law_other"] spProd := by
  refine T.F_law_product.ok sc_law_product (fun vs H Q E h => ?_) (fun cdv A outer s H vs Q E hr h => ?_)
  · obtain ⟨a, b, xs, ys, rfl, _⟩ := h
    rfl
  · obtain ⟨a, b, xs, ys, rfl, ha, hb, nx, ny, lx, ly, hx, hy, q⟩ := h
    have px : 0 < xs.length := List.length_pos_iff.mpr nx
    have py : 0 < ys.length := List.length_pos_iff.mpr ny
    refine ⟨_, (PSs.nox (pss_cons (ps_setLc (i := 2) (own := [("_law_place", 3)]) (g := (gName 3)) (tt := tYes) rfl sc_law_product.nd rfl rfl (sw_true rfl rfl rfl (by decide +kernel)) (pi_range1 (by rfl) T.z_range (pa_cons (pe_op op_sub (pe_op op_add (pe_callB call_len_seq (by rfl) T.z_len (by decide +kernel) (pa_cons (pv 0) pa_nil)) (pe_callB call_len_seq (by rfl) T.z_len (by decide +kernel) (pa_cons (pv 1) pa_nil))) pe_int) pa_nil)) (blkOk_by (N := N_law_product) (sc := defScope s_law_product) (by decide +kernel)) (fun _ _ _ _ _ => (pg_name (i := 3) sc_law_product.nd rfl (.inl rfl))) (fun _ _ _ _ _ => pts_nil) (fun _ _ _ _ _ => pe_int))
    (pss_cons (ps_for PassesOwn.never (by rfl) (pi_enumT (by rfl) T.z_enumerate (pa_cons (pv 0) pa_nil)) (pg_tup (by rfl) (pgs_cons (pg_name (i := 4) sc_law_product.nd rfl (.inl rfl)) (pgs_cons (pg_name (i := 5) sc_law_product.nd rfl (.inl rfl)) pgs_nil)))
      (pss_one (ps_for PassesOwn.never (by rfl) (pi_enumT (by rfl) T.z_enumerate (pa_cons (pv 1) pa_nil)) (pg_tup (by rfl) (pgs_cons (pg_name (i := 3) sc_law_product.nd rfl (.inl rfl)) (pgs_cons (pg_name (i := 6) sc_law_product.nd rfl (.inl rfl)) pgs_nil)))
        (pss_one (ps_asg (pe_op op_add (pe_ix ix_list (pv 2) (pe_op op_add (pv 4) (pv 3)) (fun _ _ => rfl)) (pe_op op_mulW (pv 5) (pv 6))) (pg_sub (pv 2) (pe_op op_add (pv 4) (pv 3)) set_list))))))
    (pss_one (ps_ret (pe_tupleOf (by rfl) T.z_tuple (pv 2))))))), ?_⟩
    refine ⟨_, rfl, a, _, rfl, .inr (SqT.of ha), _, rfl, b, _, rfl, .inr (SqT.of hb), ?_⟩
    rw [List.length_map, List.length_map]
    obtain ⟨N, hN⟩ : ∃ N, N = xs.length + ys.length - 1 := ⟨_, rfl⟩
    have eN : (((xs.length : Int) + (ys.length : Int) - 1)).toNat = N := by omega
    refine ⟨_, _, rfl, rfl, _, _, rfl, rfl, _, rfl, (by show -(2 ^ 62) ≤ (xs.length : Int) + (ys.length : Int) - 1; omega), (by show (xs.length : Int) + (ys.length : Int) - 1 < 2 ^ 62; omega), fun D hD => lc_range (n := _) (fun j H' => H' = upd H D (.lst (List.replicate j (V.int 0)))) rfl (fun j H' hj hP => ?_) (fun H' hP => ?_)⟩
    · subst hP
      have hj2 : j < N := by rw [← eN]; exact hj
      refine ⟨rfl, ⟨_, upd_same, ?_, ?_⟩⟩
      · rw [List.length_replicate]
        exact small1000 (by omega)
      · rw [upd_upd, List.replicate_succ']
    · subst hP
      show _
      rw [show List.replicate (((xs.length : Int) + (ys.length : Int) - 1)).toNat (V.int 0) = tab N (fun k => cv (xs.take 0) (co ys) k) by rw [eN, tab_rep]; rfl]
      have sD : ∀ o, Same H (upd H D o) := fun o => same_upd0 hD
      -- what stands in each turn: the list at D, and what stood before
      refine ⟨_, rfl, a, _, rfl, SqT.of (sD _ _ _ ha), for_enumT (xs := xs.map V.int) (fun i σ H' => ∃ y3 y4 y5 y6, σ = [some (.ref a), some (.ref b), some (.ref D), y3, y4, y5, y6] ∧ Same H H' ∧ H' D = some (.lst (tab N fun k => cv (xs.take i) (co ys) k))) ⟨none, none, none, none, rfl, sD _, upd_same⟩ (fun i σ H' hP => ?_) (fun i x B σ H' hxi hP hB => ?_) (fun σ H' hP => ?_)⟩
      · obtain ⟨y3, y4, y5, y6, _, sH, _⟩ := hP
        exact SqT.of (sH _ _ ha)
      · obtain ⟨y3, y4, y5, y6, rfl, sH, hL⟩ := hP
        obtain ⟨hi2, rfl⟩ := int_get hxi
        refine ⟨B, _, rfl, SqT.of upd_same, rfl, _, _, rfl, _, _, rfl, rfl, ?_⟩
        refine gen_upd H' B _ hB (fun H2 s2 _ => ?_)
        have sH2 := sH.trans s2
        have hL2 := s2 _ _ hL
        rw [tab_ext (g := J xs (co ys) i 0) fun k hk => J_0.symm] at hL2
        refine ⟨_, rfl, b, _, rfl, SqT.of (sH2 _ _ hb), for_enumT (xs := ys.map V.int) (fun j σ H3 => ∃ y3 y6, σ = [some (.ref a), some (.ref b), some (.ref D), y3, some (.int ((i : Nat) : Int)), some (.int (co xs i)), y6] ∧ Same H H3 ∧ H3 D = some (.lst (tab N (J xs (co ys) i j)))) ⟨y3, y6, rfl, sH2, hL2⟩ (fun j σ H3 hP => ?_) (fun j y B2 σ H3 hyj hP hB2 => ?_) (fun σ H3 hP => ?_)⟩
        · obtain ⟨y3, y6, _, sH3, _⟩ := hP
          exact SqT.of (sH3 _ _ hb)
        · obtain ⟨y3, y6, rfl, sH3, hL3⟩ := hP
          obtain ⟨hj2, rfl⟩ := int_get hyj
          refine ⟨B2, _, rfl, SqT.of upd_same, rfl, _, _, rfl, _, _, rfl, rfl, ?_⟩
          refine gen_upd H3 B2 _ hB2 (fun H4 s4 _ => ?_)
          have sH4 := sH3.trans s4
          have hL4 := s4 _ _ hL3
          have e1 : ((i : Nat) : Int) + ((j : Nat) : Int) = ((i + j : Nat) : Int) := by omega
          refine ⟨_, rfl, _, rfl, _, rfl, _, _, rfl, rfl, D, _, _, _, rfl, rfl, SqL.of hL4, at_of e1 (tab_get (by omega)), _, rfl, _, rfl, _, _, rfl, rfl, sm_mul (sm_co hx hi2) (sm_co hy hj2), _, _, rfl, rfl, ?_⟩
          refine ⟨_, rfl, _, rfl, _, rfl, _, _, rfl, rfl, D, _, _, (i + j), rfl, rfl, hL4, ?_, ?_⟩
          · rw [tab_len]
            exact ix_at e1 (by omega)
          · refine ⟨_, _, rfl, fun c o e => ?_, ?_⟩
            · rw [upd_ne (ne_of_none e hD)]
              exact sH4 _ _ e
            · rw [upd_same]
              show some (HO.lst ((tab N (J xs (co ys) i j)).set (i + j) (.int (J xs (co ys) i j (i + j) + co xs i * co ys j)))) = _
              rw [tab_set, tab_ext fun k hk => J_step]
        · obtain ⟨y3, y6, rfl, sH3, hL3⟩ := hP
          rw [List.length_map, tab_ext fun k hk => J_end hi2] at hL3
          exact ⟨_, _, _, _, rfl, sH3, hL3⟩
      · obtain ⟨y3, y4, y5, y6, rfl, sH, hL⟩ := hP
        rw [List.length_map, List.take_length, tab_tb] at hL
        refine ⟨_, rfl, .inl ⟨D, _, rfl, SqL.of hL, fun p hp => ?_⟩⟩
        refine q p _ (sH.trans (same_upd0 hp)) (Same.free sH hp) ?_
        rw [upd_same, hN]
        rfl
/-- the product of the first n -/
def pow (l : List Int) : Nat → List Int
  | 0 => [1]
  | n + 1 => ml (pow l n) l
def spPow : Sp := fun vs H Q _ => ∃ (a : Addr) (xs : List Int) (n : Nat), vs = [.ref a, .int n] ∧ H a = some (tp xs) ∧ xs ≠ [] ∧ xs.length ≤ 100 ∧ (∀ x ∈ xs, sm x) ∧ (∀ i, i < n → pow xs i ≠ [] ∧ (pow xs i).length ≤ 100 ∧ ∀ x ∈ pow xs i, sm x) ∧ n ≤ 100 ∧ ∀ p H', Same H H' → H' p = some (tp (pow xs n)) → Q (.ref p) H'
theorem ok_law_power (T : Facts K mg) : FnOk P w K mg base CX0 2 T.f_law_power T.fd_law_power ["_law_pair", "_law_times"] spPow := by
  have G_law_product : FnOk P w K mg base CX0 1 T.f_law_product T.fd_law_product ["_law_one", "_law_other"] spProd := ok_law_product T
  refine T.F_law_power.ok sc_law_power (fun vs H Q E h => ?_) (fun cdv A outer s H vs Q E hr h => ?_)
  · obtain ⟨a, xs, n, rfl, _⟩ := h
    rfl
  · obtain ⟨a, xs, n, rfl, ha, nx, lx, hx, hp, hn, q⟩ := h
    refine ⟨_, (PSs.nox (pss_cons (ps_set (i := 2) sc_law_power.nd rfl (.inl rfl) (pe_tup (pa_cons pe_int pa_nil)))
    (pss_cons (ps_for PassesOwn.never (by rfl) (pi_range1 (by rfl) T.z_range (pa_cons (pv 1) pa_nil)) (pg_name (i := 3) sc_law_power.nd rfl (.inl rfl))
      (pss_one (ps_set (i := 2) sc_law_power.nd rfl (.inl rfl) (pe_call G_law_product hr (by rfl) T.g_law_product T.F_law_product.kp T.b_law_product .nil pass0 (pa_cons (pv 2) (pa_cons (pv 0) pa_nil))))))
    (pss_one (ps_ret (pv 2)))))), ?_⟩
    refine ⟨(by show 1 ≤ sizeLine; decide), fun p0 n0 => ⟨_, rfl, n, rfl, by omega, by omega, for_range (n := (n : Int).toNat) (fun i σ H' => ∃ r y3, σ = [some (.ref a), some (.int n), some (.ref r), y3] ∧ Same H H' ∧ H' r = some (tp (pow xs i))) ⟨p0, none, rfl, same_upd0 n0, upd_same⟩ (fun i σ H' hi hP => ?_) (fun σ H' hP => ?_)⟩⟩
    · obtain ⟨r, y3, rfl, sH, hr2⟩ := hP
      obtain ⟨h1, h2, h3⟩ := hp i (by omega)
      exact ⟨_, rfl, _, rfl, r, a, _, xs, rfl, hr2, sH _ _ ha, h1, nx, h2, lx, h3, hx, fun p H2 s2 _ hp2 => ⟨p, _, rfl, sH.trans s2, hp2⟩⟩
    · obtain ⟨r, y3, rfl, sH, hr2⟩ := hP
      rw [Int.toNat_natCast] at hr2
      exact ⟨_, rfl, q r H' sH hr2⟩
end
end K65

set_option Elab.async false
set_option linter.all false
set_option maxRecDepth 100000
set_option maxHeartbeats 4000000
namespace K65
open PySem PySem.Spec PyProof.Rows L2 StX RZ MyR SlX OwnR OwnF EnumT
theorem first_of : ∀ ns : List Int, cont ns ≠ 0 → ∃ x r, ns.filter (fun x => x != 0) = x :: r ∧ sg ns = (if 0 < x then 1 else -1)
  | [], h => absurd rfl h
  | y :: ys, h => by
    by_cases c : y = 0
    · have hc : cont ys ≠ 0 := fun e => h (by
        show Nat.gcd y.natAbs (cont ys) = 0
        rw [c, e]
        rfl)
      obtain ⟨x, r, e1, e2⟩ := first_of ys hc
      refine ⟨x, r, ?_, ?_⟩
      · rw [List.filter_cons_of_neg (by rw [c]; decide)]
        exact e1
      · show (if y = 0 then sg ys else _) = _
        rw [if_pos c]
        exact e2
    · refine ⟨y, ys.filter (fun x => x != 0), ?_, ?_⟩
      · rw [List.filter_cons_of_pos (by simpa using c)]
      · show (if y = 0 then sg ys else if 0 < y then 1 else -1) = _
        rw [if_neg c]
section
variable {P : Program} {w : World} {K : PySem.W.Frag} {mg : Str → Option Value} {base : Heap}
theorem ok_law_plain (T : Facts K mg) : FnOk P w K mg base CX0 3 T.f_law_plain T.fd_law_plain ["_law_form_here"] spPrim := by
  have G_law_shared : FnOk P w K mg base CX0 2 T.f_law_shared T.fd_law_shared ["_law_numbers"] spShared := ok_law_shared T
  refine T.F_law_plain.ok sc_law_plain (fun vs H Q E h => ?_) (fun cdv A outer s H vs Q E hr h => ?_)
  · obtain ⟨t, ns, rfl, _⟩ := h
    rfl
  · obtain ⟨t, ns, rfl, ht, hl, hs, q⟩ := h
    refine ⟨_, (PSs.nox (pss_cons (ps_set (i := 1) sc_law_plain.nd rfl (.inr rfl) (pe_call G_law_shared hr (by rfl) T.g_law_shared T.F_law_shared.kp T.b_law_shared .nil pass0 (pa_cons (pv 0) pa_nil)))
    (pss_cons (ps_if (pt_cmpR op_eq (pv 1) pe_int (nomark _))
      (pss_one (ps_ret (pv 0)))
      pss_nil)
    (pss_cons (ps_set (i := 2) sc_law_plain.nd rfl (.inr rfl) (pe_ix ix_list (pe_lc (own := [("_law_entry", 3)]) (g := (gName 3)) (by rfl) sc_law_plain.nd (pi_tup (pv 0)) (blkOk_by (N := N_law_plain) (sc := defScope s_law_plain) (by decide +kernel)) (fun _ _ _ _ _ => (pg_name (i := 3) sc_law_plain.nd rfl (.inl rfl))) (fun _ _ _ _ _ => (pts_one (pt_cmpR op_ne (pv 3) pe_int (nomark _)))) (fun _ _ _ _ _ => (pv 3))) pe_int (fun _ _ => rfl)))
    (pss_one (ps_ret (pe_tupleOf (by rfl) T.z_tuple (pe_lc (own := [("_law_entry", 3)]) (g := (gName 3)) (tt := tYes) (by rfl) sc_law_plain.nd (pi_tup (pv 0)) (blkOk_by (N := N_law_plain) (sc := defScope s_law_plain) (by decide +kernel)) (fun _ _ _ _ _ => (pg_name (i := 3) sc_law_plain.nd rfl (.inl rfl))) (fun _ _ _ _ _ => pts_nil) (fun _ _ _ _ _ => (pe_op op_fdivZ (pv 3) (pe_ifExp (pt_cmpR op_gt (pv 2) pe_int (nomark _)) (pv 1) (pe_op op_sub pe_int (pv 1))))))))))))), ?_⟩
    refine ⟨_, rfl, t, ns, rfl, ht, _, rfl, rfl, _, rfl, ?_⟩
    by_cases c : cont ns = 0
    · rw [decide_eq_true (show V.int ((cont ns : Nat) : Int) = V.int 0 by rw [c]; rfl)]
      refine iteT ⟨_, rfl, q t H (Same.rf H) ?_⟩
      unfold prim
      rw [if_pos (by unfold part; rw [c]; exact Int.zero_mul _)]
      exact ht
    · rw [decide_eq_false fun z => c (Int.natCast_eq_zero.mp (V.int.inj z))]
      obtain ⟨x0, r0, e1, e2⟩ := first_of ns c
      have hpart : part ns = if 0 < x0 then ((cont ns : Nat) : Int) else 0 - ((cont ns : Nat) : Int) := by
        unfold part
        rw [e2]
        split
        · exact Int.mul_one _
        · rw [Int.mul_neg, Int.mul_one, Int.zero_sub]
      have hp0 : part ns ≠ 0 := fun e => c (by rw [← part_abs, e]; rfl)
      have hcd : CDivZ 0 (part ns) := ⟨hp0, Nat.lt_trans (PySem.Flt.log2_lt_of (k := 4000) (by decide) (sm_part hs)) (by decide)⟩
      refine iteF ⟨_, rfl, t, rfl, ⟨_, SqT.of ht⟩, fun D hD => lc_tup (xs := ns.map V.int) (fun j H' => Same H H' ∧ H' D = some (.lst (((ns.take j).filter (fun x => x != 0)).map V.int))) ⟨same_upd0 hD, upd_same⟩ (fun j H' _ hP => SqT.of (hP.1 _ _ ht)) (fun j x H' hx hP => ?_) (fun H1 hP => ?_)⟩
      · obtain ⟨sH, hL⟩ := hP
        obtain ⟨hj, rfl⟩ := int_get hx
        refine ⟨rfl, _, rfl, rfl, _, rfl, ?_⟩
        rw [take_snoc hj, List.filter_append]
        by_cases d : co ns j = 0
        · rw [decide_eq_true (show V.int (co ns j) = V.int 0 by rw [d])]
          refine iteF ⟨sH, ?_⟩
          rw [hL, List.filter_cons_of_neg (by rw [d]; decide), List.filter_nil, List.append_nil]
        · rw [decide_eq_false fun z => d (V.int.inj z)]
          refine iteT ⟨_, rfl, _, hL, ?_, fun b o e => ?_, ?_⟩
          · have h1 := List.length_filter_le (fun x => x != 0) (ns.take j)
            rw [List.length_take] at h1
            rw [List.length_map]
            exact small1000 (by omega)
          · rw [upd_ne (ne_of_none e hD)]
            exact sH _ _ e
          · rw [upd_same, List.filter_cons_of_pos (by simpa using d), List.filter_nil, List.map_append]
            rfl
      · obtain ⟨s1, hL⟩ := hP
        rw [List.length_map, List.take_length, e1] at hL
        refine ⟨D, _, _, .int x0, rfl, rfl, SqL.of hL, atI_nat (j := 0) rfl, ?_⟩
        have ht1 := s1 _ _ ht
        refine ⟨_, rfl, t, rfl, ⟨_, SqT.of ht1⟩, fun D2 hD2 => lc_tup (xs := ns.map V.int) (fun j H' => H' = upd H1 D2 (.lst (tab j fun k => (co ns k).fdiv (part ns)))) rfl (fun j H' _ hP => ?_) (fun j x H' hx hP => ?_) (fun H' hP => ?_)⟩
        · rw [hP]
          exact SqT.of (same_upd0 hD2 _ _ ht1)
        · subst hP
          obtain ⟨hj, rfl⟩ := int_get hx
          refine ⟨rfl, _, rfl, _, rfl, x0, 0, rfl, rfl, _, rfl, ?_⟩
          have fin : ∀ v : Int, v = part ns → True := fun _ _ => True.intro
          by_cases d : 0 < x0
          · rw [decide_eq_true d]
            rw [if_pos d] at hpart
            rw [hpart] at hcd
            refine iteT ⟨_, rfl, _, _, rfl, rfl, hcd, _, upd_same, ?_, ?_⟩
            · rw [tab_len]
              exact small1000 (by omega)
            · rw [upd_upd, ← tab_snoc, hpart]
          · rw [decide_eq_false d]
            rw [if_neg d] at hpart
            rw [hpart] at hcd
            refine iteF ⟨_, rfl, _, _, rfl, rfl, _, _, rfl, rfl, hcd, _, upd_same, ?_, ?_⟩
            · rw [tab_len]
              exact small1000 (by omega)
            · rw [upd_upd, ← tab_snoc, hpart]
        · subst hP
          rw [List.length_map, tab_tb, tb_map (fun x => x.fdiv (part ns)) ns]
          refine .inl ⟨D2, _, rfl, SqL.of upd_same, fun p hp2 => ?_⟩
          refine q p _ (s1.trans ((same_upd0 hD2).trans (same_upd0 hp2))) ?_
          rw [upd_same]
          unfold prim
          rw [if_neg hp0]
end
end K65

set_option Elab.async false
set_option linter.all false
set_option maxRecDepth 100000
set_option maxHeartbeats 4000000
namespace K65
open PySem PySem.Spec PyProof.Rows L2 StX RZ MyR SlX OwnR OwnF EnumT
theorem prim_len (l : List Int) : (prim l).length = l.length := by
  unfold prim
  split
  · rfl
  · rw [List.length_map]
theorem prim_mem {l : List Int} {b : Nat} (h : ∀ x ∈ l, x.natAbs ≤ b) : ∀ x ∈ prim l, x.natAbs ≤ b := by
  intro x hx
  unfold prim at hx
  by_cases c : part l = 0
  · rw [if_pos c] at hx
    exact h x hx
  · rw [if_neg c] at hx
    obtain ⟨y, hy, rfl⟩ := List.mem_map.mp hx
    have hd : part l ∣ y := Int.natAbs_dvd_natAbs.mp (by rw [part_abs]; exact Int.natAbs_dvd_natAbs.mpr (cont_dvd l y hy))
    obtain ⟨k, rfl⟩ := hd
    show ((part l * k).fdiv (part l)).natAbs ≤ b
    rw [Int.mul_fdiv_cancel_left _ c]
    refine Nat.le_trans ?_ (h _ hy)
    rw [Int.natAbs_mul]
    exact Nat.le_mul_of_pos_left _ (Int.natAbs_pos.mpr c)
section
variable {P : Program} {w : World} {K : PySem.W.Frag} {mg : Str → Option Value} {base : Heap}
theorem dc_ne {H : Hp} {d p : Addr} {xs : List V} (hd : Dc H d) (hp : H p = some (.tup xs)) : p ≠ d := fun e => by
  obtain ⟨x, y, z, h⟩ := hd
  rw [e, h] at hp
  cases hp
def spLine : Sp := fun vs H Q _ => ∃ (t : Addr) (u v : Int), vs = [.ref t] ∧ H t = some (tp [u, v]) ∧ ∀ p, H p = none → Q (.ref p) (upd H p (tp [v, 0 - u]))
theorem ok_law_line (T : Facts K mg) : FnOk P w K mg base CX0 1 T.f_law_line T.fd_law_line ["_law_point_here"] spLine := by
  refine T.F_law_line.ok sc_law_line (fun vs H Q E h => ?_) (fun cdv A outer s H vs Q E hr h => ?_)
  · obtain ⟨t, u, v, rfl, _⟩ := h
    rfl
  · obtain ⟨t, u, v, rfl, ht, q⟩ := h
    refine ⟨_, (PSs.nox (pss_one (ps_ret (pe_tup (pa_cons (pe_ix ix_tup (pv 0) pe_int (fun _ _ => rfl)) (pa_cons (pe_op op_sub pe_int (pe_ix ix_tup (pv 0) pe_int (fun _ _ => rfl))) pa_nil)))))), ?_⟩
    exact ⟨_, rfl, t, _, 1, _, rfl, rfl, SqT.of ht, atI_nat (j := 1) rfl, _, rfl, t, _, 0, _, rfl, rfl, SqT.of ht, atI_nat (j := 0) rfl, _, _, rfl, rfl, (by show 2 ≤ sizeLine; decide), fun p hp => q p hp⟩
/-- a drawn point -/
def spPoint : Sp := fun vs H Q _ => ∃ (d : Addr) (m : Nat), vs = [.ref d, .int m] ∧ Dc H d ∧ 1 ≤ m ∧ m ≤ 1000 ∧ ∀ p H' u v, Sx d H H' → Dc H' d → H' p = some (tp [u, v]) → u.natAbs ≤ m → v.natAbs ≤ m → Q (.ref p) H'
theorem ok_law_point (T : Facts K mg) : FnOk P w K mg base CX0 4 T.f_law_point T.fd_law_point ["_law_dice_here", "_law_most"] spPoint := by
  have G_law_near : FnOk P w K mg base CX0 2 T.f_law_near T.fd_law_near ["_law_dice_here", "_law_most"] spNear := ok_law_near T
  have G_law_plain : FnOk P w K mg base CX0 3 T.f_law_plain T.fd_law_plain ["_law_form_here"] spPrim := ok_law_plain T
  refine T.F_law_point.ok sc_law_point (fun vs H Q E h => ?_) (fun cdv A outer s H vs Q E hr h => ?_)
  · obtain ⟨d, m, rfl, _⟩ := h
    rfl
  · obtain ⟨d, m, rfl, hd, h1, h2, q⟩ := h
    refine ⟨_, (PSs.nox (pss_cons (ps_par (i := 2) (j := 3) (by rfl) sc_law_point.nd rfl rfl (by decide) rfl rfl (pa_cons (pe_call G_law_near (hr.mono (by decide)) (by rfl) T.g_law_near T.F_law_near.kp T.b_law_near .nil pass0 (pa_cons (pv 0) (pa_cons (pv 1) pa_nil))) (pa_cons (pe_call G_law_near (hr.mono (by decide)) (by rfl) T.g_law_near T.F_law_near.kp T.b_law_near .nil pass0 (pa_cons (pv 0) (pa_cons (pv 1) pa_nil))) pa_nil)) (by rfl))
    (pss_one (ps_ret (pe_ifExp (pt_cmpR (op_neD (hu64 hr)) (pe_tup (pa_cons (pv 2) (pa_cons (pv 3) pa_nil))) (pe_tup (pa_cons pe_int (pa_cons pe_int pa_nil))) (nomark _)) (pe_call G_law_plain hr (by rfl) T.g_law_plain T.F_law_plain.kp T.b_law_plain .nil pass0 (pa_cons (pe_tup (pa_cons (pv 2) (pa_cons (pv 3) pa_nil))) pa_nil)) (pe_tup (pa_cons pe_int (pa_cons pe_int pa_nil)))))))), ?_⟩
    have e15 : (10 : Int) ^ 15 = 1000000000000000 := by decide
    have z2 : 2 ≤ sizeLine := by decide
    refine ⟨_, rfl, _, rfl, d, m, rfl, hd, by omega, by rw [e15]; omega, fun u H1 u1 u2 s1 d1 => ⟨_, rfl, _, rfl, d, m, rfl, d1, by omega, by rw [e15]; omega, fun v H2 v1 v2 s2 d2 => ⟨_, _, rfl, ?_⟩⟩⟩
    have s12 := s1.trans s2
    refine ⟨_, rfl, _, rfl, z2, fun p1 n1 => gen_upd H2 p1 (tp [u, v]) n1 fun H3 s3 f3 => ⟨z2, fun p2 n2 => gen_upd H3 p2 (tp [0, 0]) n2 fun H4 s4 f4 => ?_⟩⟩
    refine ne_ints (xs := [u, v]) (ys := [0, 0]) (SqT.of (s4 _ _ f3)) (SqT.of f4) ?_
    have d4 := d2.same (s3.trans s4)
    have s14 : Sx d H H4 := s12.trans (Sx.of (s3.trans s4))
    by_cases c : [u, v] = [0, 0]
    · rw [decide_eq_true c]
      refine ⟨_, rfl, iteF ⟨z2, fun p3 n3 => gen_upd H4 p3 (tp [1, 0]) n3 fun H5 s5 f5 => ?_⟩⟩
      exact q p3 H5 1 0 (s14.trans (Sx.of s5)) (d4.same s5) f5 (by show 1 ≤ m; omega) (by show 0 ≤ m; omega)
    · rw [decide_eq_false c]
      refine ⟨_, rfl, iteT ⟨_, rfl, _, rfl, z2, fun p3 n3 => gen_upd H4 p3 (tp [u, v]) n3 fun H5 s5 f5 => ?_⟩⟩
      have hb : ∀ x ∈ [u, v], x.natAbs ≤ m := fun x hx => by
        simp only [List.mem_cons, List.not_mem_nil, or_false] at hx
        rcases hx with e | e <;> rw [e] <;> omega
      refine ⟨p3, [u, v], rfl, f5, by show 2 ≤ 1000; omega, fun x hx => Nat.lt_of_le_of_lt (hb x hx) (Nat.lt_of_le_of_lt h2 (by decide)), fun p H6 s6 hp => ?_⟩
      have hl := prim_len [u, v]
      have hm := prim_mem hb
      generalize prim [u, v] = r at hp hl hm
      match r, hl with
      | [x, y], _ => exact q p H6 x y (s14.trans (Sx.of (s5.trans s6))) (d4.same (s5.trans s6)) hp (hm x (by simp)) (hm y (by simp))
/-- a drawn form -/
def spSmall : Sp := fun vs H Q _ => ∃ (d : Addr) (n m : Nat), vs = [.ref d, .int n, .int m] ∧ Dc H d ∧ n ≤ 40 ∧ m ≤ 1000000000000 ∧ ∀ p H' l, Sx d H H' → Dc H' d → H' p = some (tp l) → l.length = n + 1 → (∀ x ∈ l, x.natAbs ≤ m) → Q (.ref p) H'
theorem ok_law_small_form (T : Facts K mg) : FnOk P w K mg base CX0 3 T.f_law_small_form T.fd_law_small_form ["_law_dice_here", "_law_degree", "_law_most"] spSmall := by
  have G_law_near : FnOk P w K mg base CX0 2 T.f_law_near T.fd_law_near ["_law_dice_here", "_law_most"] spNear := ok_law_near T
  refine T.F_law_small_form.ok sc_law_small_form (fun vs H Q E h => ?_) (fun cdv A outer s H vs Q E hr h => ?_)
  · obtain ⟨d, n, m, rfl, _⟩ := h
    rfl
  · obtain ⟨d, n, m, rfl, hd, hn, hm, q⟩ := h
    refine ⟨_, (PSs.nox (pss_one (ps_ret (pe_tupleOf (by rfl) T.z_tuple (pe_lc (own := [("_law_place", 3)]) (g := (gName 3)) (tt := tYes) (by rfl) sc_law_small_form.nd (pi_range1 (by rfl) T.z_range (pa_cons (pe_op op_add (pv 1) pe_int) pa_nil)) (blkOk_by (N := N_law_small_form) (sc := defScope s_law_small_form) (by decide +kernel)) (fun _ _ _ _ _ => (pg_name (i := 3) sc_law_small_form.nd rfl (.inl rfl))) (fun _ _ _ _ _ => pts_nil) (fun _ _ _ _ _ => (pe_call G_law_near hr (by rfl) T.g_law_near T.F_law_near.kp T.b_law_near .nil pass0 (pa_cons (pv 0) (pa_cons (pv 2) pa_nil))))))))), ?_⟩
    have e15 : (10 : Int) ^ 15 = 1000000000000000 := by decide
    refine ⟨_, rfl, _, _, rfl, rfl, _, rfl, (by show -(2 ^ 62) ≤ (n : Int) + 1; omega), (by show (n : Int) + 1 < 2 ^ 62; omega), fun D hD => lc_range (n := ((n : Int) + 1).toNat) (fun j H' => Sx d H H' ∧ Dc H' d ∧ ∃ l : List Int, H' D = some (.lst (l.map V.int)) ∧ l.length = j ∧ ∀ x ∈ l, x.natAbs ≤ m) ⟨Sx.of (same_upd0 hD), hd.same (same_upd0 hD), [], upd_same, rfl, fun x hx => by cases hx⟩ (fun j H' hj hP => ?_) (fun H' hP => ?_)⟩
    · obtain ⟨sH, dH, l, hL, hl, hb⟩ := hP
      have nD : D ≠ d := hd.ne hD
      refine ⟨rfl, _, rfl, _, rfl, d, m, rfl, dH, by omega, by rw [e15]; omega, fun r H2 r1 r2 s2 d2 => ⟨_, s2 D _ nD hL, ?_, fun b o hb2 e => ?_, ?_, l ++ [r], ?_, ?_, fun x hx => ?_⟩⟩
      · rw [List.length_map]
        exact small1000 (by omega)
      · rw [upd_ne (ne_of_none e hD)]
        exact (sH.trans s2) b o hb2 e
      · obtain ⟨x, y, z, e⟩ := d2
        exact ⟨x, y, z, by rw [upd_ne (Ne.symm nD)]; exact e⟩
      · rw [upd_same, List.map_append]
        rfl
      · rw [List.length_append, hl]
        rfl
      · rcases List.mem_append.mp hx with e | e
        · exact hb x e
        · rw [List.mem_singleton.mp e]
          omega
    · obtain ⟨sH, dH, l, hL, hl, hb⟩ := hP
      refine .inl ⟨D, _, rfl, SqL.of hL, fun p hp2 => ?_⟩
      exact q p _ l (sH.trans (Sx.of (same_upd0 hp2))) (dH.same (same_upd0 hp2)) upd_same (by omega) hb
end
end K65

set_option Elab.async false
set_option linter.all false
set_option maxRecDepth 100000
/-! how large the entries of products are -/
namespace K65
/-- the sum of the first n absolute values -/
def sN : Nat → (Nat → Int) → Nat
  | 0, _ => 0
  | n + 1, f => sN n f + (f n).natAbs
/-- the sum of the absolute values of the entries -/
def nm (l : List Int) : Nat := (l.map Int.natAbs).sum
theorem sN_add (f g : Nat → Int) : ∀ n, sN n (fun k => f k + g k) ≤ sN n f + sN n g
  | 0 => Nat.le_refl _
  | n + 1 => by
    have h1 := sN_add f g n
    have h2 := Int.natAbs_add_le (f n) (g n)
    show sN n (fun k => f k + g k) + (f n + g n).natAbs ≤ sN n f + (f n).natAbs + (sN n g + (g n).natAbs)
    omega
theorem sN_mul (c : Int) (f : Nat → Int) : ∀ n, sN n (fun k => c * f k) = c.natAbs * sN n f
  | 0 => rfl
  | n + 1 => by
    show sN n (fun k => c * f k) + (c * f n).natAbs = c.natAbs * (sN n f + (f n).natAbs)
    rw [sN_mul c f n, Int.natAbs_mul, Nat.mul_add]
theorem sN_sh (f : Nat → Int) : ∀ n, sN n (sh f) ≤ sN n f
  | 0 => Nat.le_refl _
  | 1 => Nat.zero_le _
  | n + 2 => by
    have key : ∀ n, sN (n + 1) (sh f) = sN n f := by
      intro n
      induction n with
      | zero => rfl
      | succ n ih =>
        show sN (n + 1) (sh f) + (f n).natAbs = sN n f + (f n).natAbs
        rw [ih]
    rw [key]
    exact Nat.le_add_right _ _
theorem sN_cv (g : Nat → Int) (n : Nat) : ∀ l : List Int, sN n (cv l g) ≤ nm l * sN n g
  | [] => by
    have : sN n (cv [] g) = 0 := by
      induction n with
      | zero => rfl
      | succ n ih => show sN n (cv [] g) + (0 : Int).natAbs = 0; rw [ih]; rfl
    omega
  | x :: xs => by
    have h1 := sN_cv g n xs
    have e : sN n (cv (x :: xs) g) = sN n (fun k => x * g k + sh (cv xs g) k) := by
      rw [show cv (x :: xs) g = fun k => x * g k + sh (cv xs g) k from funext (cv_cons x xs g)]
    have h2 := sN_add (fun k => x * g k) (sh (cv xs g)) n
    have h3 := sN_sh (cv xs g) n
    rw [e]
    rw [sN_mul] at h2
    show _ ≤ (x.natAbs + nm xs) * sN n g
    rw [Nat.add_mul]
    omega
theorem nm_snoc (l : List Int) (x : Int) : nm (l ++ [x]) = nm l + x.natAbs := by
  unfold nm
  rw [List.map_append, List.sum_append]
  simp
theorem nm_tb (f : Nat → Int) : ∀ n, nm (tb n f) = sN n f
  | 0 => rfl
  | n + 1 => by
    have e : tb (n + 1) f = tb n f ++ [f n] := by
      unfold tb
      rw [List.range_succ, List.map_append]
      rfl
    rw [e, nm_snoc, nm_tb f n]
    rfl
theorem nm_mem : ∀ {l : List Int} {x : Int}, x ∈ l → x.natAbs ≤ nm l
  | y :: ys, x, h => by
    show x.natAbs ≤ y.natAbs + nm ys
    rcases List.mem_cons.mp h with e | e
    · rw [e]; omega
    · have := nm_mem e; omega
theorem sN_co (l : List Int) (n : Nat) : sN n (co l) ≤ nm l := by
  by_cases h : n ≤ l.length
  · have mono : ∀ k, sN n (co l) ≤ sN (n + k) (co l) := by
      intro k
      induction k with
      | zero => exact Nat.le_refl _
      | succ k ih => exact Nat.le_trans ih (Nat.le_add_right _ _)
    have h1 := mono (l.length - n)
    rw [show n + (l.length - n) = l.length by omega] at h1
    rw [← nm_tb (co l) l.length, tb_co] at h1
    exact h1
  · have far : ∀ k, sN (l.length + k) (co l) = sN l.length (co l) := by
      intro k
      induction k with
      | zero => rfl
      | succ k ih =>
        show sN (l.length + k) (co l) + (co l (l.length + k)).natAbs = _
        rw [ih, co_far (by omega)]
        rfl
    have h1 := far (n - l.length)
    rw [show l.length + (n - l.length) = n by omega] at h1
    rw [h1, ← nm_tb (co l) l.length, tb_co]
    exact Nat.le_refl _
theorem nm_ml (l m : List Int) : nm (ml l m) ≤ nm l * nm m := by
  unfold ml
  rw [nm_tb]
  exact Nat.le_trans (sN_cv _ _ l) (Nat.mul_le_mul (Nat.le_refl _) (sN_co m _))
theorem nm_pl : ∀ (l m : List Int), nm (pl l m) ≤ nm l + nm m
  | [], _ => Nat.zero_le _
  | _ :: _, [] => Nat.zero_le _
  | x :: xs, y :: ys => by
    have h1 := nm_pl xs ys
    have h2 := Int.natAbs_add_le x y
    show (x + y).natAbs + nm (pl xs ys) ≤ x.natAbs + nm xs + (y.natAbs + nm ys)
    omega
theorem nm_scale (c : Int) : ∀ l : List Int, nm (l.map (c * ·)) = c.natAbs * nm l
  | [] => rfl
  | x :: xs => by
    show (c * x).natAbs + nm (xs.map (c * ·)) = c.natAbs * (x.natAbs + nm xs)
    rw [nm_scale c xs, Int.natAbs_mul, Nat.mul_add]
theorem nm_le {b : Nat} : ∀ {l : List Int}, (∀ x ∈ l, x.natAbs ≤ b) → nm l ≤ l.length * b
  | [], _ => Nat.zero_le _
  | x :: xs, h => by
    have h1 := nm_le (l := xs) fun y hy => h y (List.mem_cons_of_mem _ hy)
    have h2 := h x List.mem_cons_self
    show x.natAbs + nm xs ≤ (xs.length + 1) * b
    rw [Nat.succ_mul]
    omega
end K65

set_option Elab.async false
set_option linter.all false
set_option maxRecDepth 100000
set_option maxHeartbeats 4000000
namespace K65
open PySem PySem.Spec PyProof.Rows L2 StX RZ MyR SlX OwnR OwnF EnumT
section
variable {P : Program} {w : World} {K : PySem.W.Frag} {mg : Str → Option Value} {base : Heap}
end
end K65

set_option Elab.async false
set_option linter.all false
set_option maxRecDepth 100000
set_option maxHeartbeats 4000000
namespace K65
open PySem PySem.Spec PyProof.Rows L2 StX RZ MyR SlX OwnR OwnF EnumT
/-- the product of the first i rows -/
def allP (ls : List (List Int)) (i : Nat) : List Int := (ls.take i).foldl ml [1]
theorem allP_succ {ls : List (List Int)} {i : Nat} (h : i < ls.length) : allP ls (i + 1) = ml (allP ls i) ls[i] := by
  unfold allP
  rw [List.take_add_one, List.getElem?_eq_getElem h, List.foldl_append]
  rfl
section
variable {P : Program} {w : World} {K : PySem.W.Frag} {mg : Str → Option Value} {base : Heap}
def spAll : Sp := fun vs H Q _ => ∃ (l : Addr) (rs : List Addr) (ls : List (List Int)), vs = [.ref l] ∧ H l = some (.lst (rs.map V.ref)) ∧ rs.length = ls.length ∧ (∀ i (h : i < ls.length) (h' : i < rs.length), H rs[i] = some (tp ls[i]) ∧ Rw ls[i]) ∧ (∀ i, i < ls.length → Rw (allP ls i)) ∧ ∀ p H', Same H H' → H' p = some (tp (allP ls ls.length)) → Q (.ref p) H'
theorem ok_law_all_product (T : Facts K mg) : FnOk P w K mg base CX0 2 T.f_law_all_product T.fd_law_all_product ["_law_forms"] spAll := by
  have G_law_product : FnOk P w K mg base CX0 1 T.f_law_product T.fd_law_product ["_law_one", "_law_other"] spProd := ok_law_product T
  refine T.F_law_all_product.ok sc_law_all_product (fun vs H Q E h => ?_) (fun cdv A outer s H vs Q E hr h => ?_)
  · obtain ⟨l, rs, ls, rfl, _⟩ := h
    rfl
  · obtain ⟨l, rs, ls, rfl, hl, hlen, hrow, hall, q⟩ := h
    refine ⟨_, (PSs.nox (pss_cons (ps_set (i := 1) sc_law_all_product.nd rfl (.inl rfl) (pe_tup (pa_cons pe_int pa_nil)))
    (pss_cons (ps_for PassesOwn.never (by rfl) (pi_list (pv 0)) (pg_name (i := 2) sc_law_all_product.nd rfl (.inl rfl))
      (pss_one (ps_set (i := 1) sc_law_all_product.nd rfl (.inl rfl) (pe_call G_law_product hr (by rfl) T.g_law_product T.F_law_product.kp T.b_law_product .nil pass0 (pa_cons (pv 1) (pa_cons (pv 2) pa_nil))))))
    (pss_one (ps_ret (pv 1)))))), ?_⟩
    refine ⟨(by show 1 ≤ sizeLine; decide), fun p0 n0 => ⟨_, rfl, l, rfl, ⟨_, SqL.of (same_upd0 n0 _ _ hl)⟩, for_list (xs := rs.map V.ref) (fun i σ H' => ∃ r y, σ = [some (.ref l), some (.ref r), y] ∧ Same H H' ∧ H' r = some (tp (allP ls i))) ⟨p0, none, rfl, same_upd0 n0, upd_same⟩ (fun i σ H' _ hP => ?_) (fun i x σ H' hx hP => ?_) (fun σ H' hP => ?_)⟩⟩
    · obtain ⟨r, y, _, sH, _⟩ := hP
      exact SqL.of (sH _ _ hl)
    · obtain ⟨r, y, rfl, sH, hr2⟩ := hP
      rw [List.getElem?_map] at hx
      obtain ⟨b, hb, rfl⟩ := Option.map_eq_some_iff.mp hx
      obtain ⟨h1, e1⟩ := List.getElem?_eq_some_iff.mp hb
      have h2 : i < ls.length := by omega
      obtain ⟨hb2, rb⟩ := hrow i h2 h1
      rw [e1] at hb2
      have ra := hall i h2
      exact ⟨_, rfl, _, rfl, r, b, _, ls[i], rfl, hr2, sH _ _ hb2, ra.ne, rb.ne, ra.len, rb.len, ra.sm, rb.sm, fun p H2 s2 _ hp2 => ⟨p, _, rfl, sH.trans s2, by rw [allP_succ h2]; exact hp2⟩⟩
    · obtain ⟨r, y, rfl, sH, hr2⟩ := hP
      rw [List.length_map, hlen] at hr2
      exact ⟨_, rfl, q r H' sH hr2⟩
end
end K65

set_option Elab.async false
set_option linter.all false
set_option maxRecDepth 100000
/-! the primitive row of a primitive row -/
namespace K65
theorem sg_scale {c : Int} (hc : c ≠ 0) : ∀ {m : List Int}, cont m ≠ 0 → sg (m.map (c * ·)) = sg m * (if 0 < c then 1 else -1)
  | [], h => absurd rfl h
  | x :: xs, h => by
    show (if c * x = 0 then sg (xs.map (c * ·)) else if 0 < c * x then 1 else -1) = (if x = 0 then sg xs else if 0 < x then 1 else -1) * (if 0 < c then 1 else -1)
    by_cases e : x = 0
    · have hx : cont xs ≠ 0 := fun z => h (by
        show Nat.gcd x.natAbs (cont xs) = 0
        rw [e, z]
        rfl)
      rw [if_pos e, if_pos (by rw [e, Int.mul_zero]), sg_scale hc hx]
    · rw [if_neg e, if_neg (Int.mul_ne_zero hc e)]
      rcases Int.lt_or_gt_of_ne hc with h1 | h1
      · rcases Int.lt_or_gt_of_ne e with h2 | h2
        · rw [if_pos (Int.mul_pos_of_neg_of_neg h1 h2), if_neg (by omega), if_neg (by omega)]
          decide
        · rw [if_neg (by have := Int.mul_neg_of_neg_of_pos h1 h2; omega), if_pos h2, if_neg (by omega)]
          decide
      · rcases Int.lt_or_gt_of_ne e with h2 | h2
        · rw [if_neg (by have := Int.mul_neg_of_pos_of_neg h1 h2; omega), if_neg (by omega), if_pos h1]
          decide
        · rw [if_pos (Int.mul_pos h1 h2), if_pos h2, if_pos h1]
          decide
theorem prim_spec {l : List Int} (h : cont l ≠ 0) : l = (prim l).map (part l * ·) ∧ cont (prim l) = 1 ∧ sg (prim l) = 1 := by
  have hp : part l ≠ 0 := fun e => h (by rw [← part_abs, e]; rfl)
  obtain ⟨m, em, cm⟩ := cont_split (d := part l) (part_abs l) h
  have e : prim l = m := by
    unfold prim
    rw [if_neg hp]
    conv => lhs; rw [em]
    rw [List.map_map]
    have e2 : ∀ c : Int, c ≠ 0 → m.map ((fun x => x.fdiv c) ∘ fun x => c * x) = m := fun c hc => by
      conv => rhs; rw [← List.map_id m]
      exact List.map_congr_left fun x _ => Int.mul_fdiv_cancel_left x hc
    rw [← em]
    exact e2 _ hp
  rw [e]
  refine ⟨em, cm, ?_⟩
  have hs := sg_scale hp (m := m) (by rw [cm]; decide)
  rw [← em] at hs
  have hpos : (0 : Int) < (cont l : Nat) := by omega
  rcases sg_cases l with s | s
  · have : 0 < part l := by unfold part; rw [s, Int.mul_one]; exact hpos
    rw [if_pos this, Int.mul_one, s] at hs
    exact hs.symm
  · have : ¬ 0 < part l := by unfold part; rw [s]; omega
    rw [if_neg this, s] at hs
    omega
end K65

set_option Elab.async false
set_option linter.all false
set_option maxRecDepth 100000
/-! sums of rows, rows of 0 -/
namespace K65
theorem zs_one : ∀ xs ys : List Int, zs 1 xs ys = pl xs ys
  | [], _ => rfl
  | _ :: _, [] => rfl
  | x :: xs, y :: ys => by
    show (x + 1 * y) :: zs 1 xs ys = (x + y) :: pl xs ys
    rw [zs_one xs ys, Int.one_mul]
theorem any_cont : ∀ l : List Int, (!l.any (· != 0)) = decide (cont l = 0)
  | [] => rfl
  | x :: xs => by
    have h := any_cont xs
    rw [List.any_cons, Bool.not_or, h]
    by_cases c : x = 0
    · have e : cont (x :: xs) = cont xs := by
        show Nat.gcd x.natAbs (cont xs) = _
        rw [c]
        exact Nat.gcd_zero_left _
      rw [e, c]
      rfl
    · have e : cont (x :: xs) ≠ 0 := fun z => c (cont_zero z x List.mem_cons_self)
      rw [decide_eq_false e]
      have : (x != 0) = true := by simpa using c
      rw [this]
      rfl
end K65

set_option Elab.async false
set_option linter.all false
set_option maxRecDepth 100000
set_option maxHeartbeats 4000000
namespace K65
open PySem PySem.Spec PyProof.Rows L2 StX RZ MyR SlX OwnR OwnF EnumT
/-! ### drawn forms -/
/-- a row of a degree, with its size -/
structure Bd (l : List Int) (n b : Nat) : Prop where
  len : l.length = n + 1
  nm : nm l ≤ b
theorem Bd.ne {l : List Int} {n b : Nat} (h : Bd l n b) : l ≠ [] := fun e => by
  have := h.len
  rw [e] at this
  cases this
theorem Bd.mono {l : List Int} {n b c : Nat} (h : Bd l n b) (k : b ≤ c) : Bd l n c := ⟨h.len, Nat.le_trans h.nm k⟩
theorem Bd.mem {l : List Int} {n b : Nat} (h : Bd l n b) : ∀ x ∈ l, x.natAbs ≤ b := fun x hx => Nat.le_trans (nm_mem hx) h.nm
theorem Bd.rw {l : List Int} {n b : Nat} (h : Bd l n b) (hn : n ≤ 99) (hb : b < 2 ^ 4000) : Rw l := ⟨h.ne, by rw [h.len]; omega, fun x hx => Nat.lt_of_le_of_lt (h.mem x hx) hb⟩
theorem bd_ml {l m : List Int} {n k b c : Nat} (h : Bd l n b) (g : Bd m k c) : Bd (ml l m) (n + k) (b * c) :=
  ⟨by rw [ml_len, h.len, g.len]; omega, Nat.le_trans (nm_ml l m) (Nat.mul_le_mul h.nm g.nm)⟩
theorem bd_one : Bd [1] 0 1 := ⟨rfl, Nat.le_refl _⟩
theorem bd_line {u v : Int} {m : Nat} (hu : u.natAbs ≤ m) (hv : v.natAbs ≤ m) : Bd [v, 0 - u] 1 (2 * m) := ⟨rfl, by
  show v.natAbs + ((0 - u).natAbs + 0) ≤ _
  omega⟩
theorem bd_pair {u v : Int} {m : Nat} (hu : u.natAbs ≤ m) (hv : v.natAbs ≤ m) : Bd [u, v] 1 (2 * m) := ⟨rfl, by
  show u.natAbs + (v.natAbs + 0) ≤ _
  omega⟩
theorem bd_small {l : List Int} {n m : Nat} (hl : l.length = n + 1) (h : ∀ x ∈ l, x.natAbs ≤ m) : Bd l n ((n + 1) * m) := ⟨hl, by
  have := nm_le h
  rw [hl] at this
  exact this⟩
theorem bd_pow {l : List Int} {b : Nat} (h : Bd l 1 b) : ∀ i, Bd (pow l i) i (b ^ i)
  | 0 => bd_one
  | i + 1 => by
    rw [Nat.pow_succ]
    exact bd_ml (bd_pow h i) h
theorem bd_all {ls : List (List Int)} {b : Nat} (h : ∀ l ∈ ls, Bd l 1 b) : ∀ i, i ≤ ls.length → Bd (allP ls i) i (b ^ i)
  | 0, _ => bd_one
  | i + 1, hi => by
    rw [Nat.pow_succ, allP_succ hi]
    exact bd_ml (bd_all h i (by omega)) (h _ (List.getElem_mem hi))
theorem bd_zs {l m : List Int} {n b c : Nat} (h : Bd l n b) (g : Bd m n c) : Bd (zs 1 l m) n (b + c) := by
  rw [zs_one]
  exact ⟨by rw [pl_len (by rw [h.len, g.len]), h.len], Nat.le_trans (nm_pl l m) (Nat.add_le_add h.nm g.nm)⟩
theorem bd_scale {l : List Int} {n b d : Nat} {c : Int} (h : Bd l n b) (hc : c.natAbs ≤ d) : Bd (l.map (c * ·)) n (d * b) := ⟨by rw [List.length_map, h.len], by
  rw [nm_scale]
  exact Nat.mul_le_mul hc h.nm⟩
theorem p6 {i : Nat} (h : i ≤ 8) : 6 ^ i ≤ 1679616 := Nat.le_trans (Nat.pow_le_pow_right (by decide) h) (by decide)
theorem iteI {i j : Int} {A B : Prop} (h1 : i = j → A) (h2 : i ≠ j → B) : if decide (V.int i = V.int j) = true then A else B := by
  by_cases h : i = j
  · rw [decide_eq_true (by rw [h])]
    exact iteT (h1 h)
  · rw [decide_eq_false fun z => h (V.int.inj z)]
    exact iteF (h2 h)
section
variable {P : Program} {w : World} {K : PySem.W.Frag} {mg : Str → Option Value} {base : Heap}
def spDrawn : Sp := fun vs H Q _ => ∃ (d : Addr) (n : Nat), vs = [.ref d, .int n] ∧ Dc H d ∧ n ≤ 8 ∧ ∀ p H' l, Sx d H H' → Dc H' d → H' p = some (tp l) → Bd l n (10 ^ 14) → Q (.ref p) H'
theorem ok_law_form (T : Facts K mg) : FnOk P w K mg base CX0 5 T.f_law_form T.fd_law_form ["_law_dice_here", "_law_degree"] spDrawn := by
  have G_law_roll : FnOk P w K mg base CX0 1 T.f_law_roll T.fd_law_roll ["_law_dice_here", "_law_total"] spRoll2 := (ok_law_roll T).imp roll2
  have G_law_near : FnOk P w K mg base CX0 2 T.f_law_near T.fd_law_near ["_law_dice_here", "_law_most"] spNear := ok_law_near T
  have G_law_plus := ok_law_plus (P := P) (w := w) (base := base) T
  have G_law_scaled := ok_law_scaled (P := P) (w := w) (base := base) T
  have G_law_product := ok_law_product (P := P) (w := w) (base := base) T
  have G_law_all_product := ok_law_all_product (P := P) (w := w) (base := base) T
  have G_law_power := ok_law_power (P := P) (w := w) (base := base) T
  have G_law_line := ok_law_line (P := P) (w := w) (base := base) T
  have G_law_point := ok_law_point (P := P) (w := w) (base := base) T
  have G_law_small_form := ok_law_small_form (P := P) (w := w) (base := base) T
  refine T.F_law_form.ok sc_law_form (fun vs H Q E h => ?_) (fun cdv A outer s H vs Q E hr h => ?_)
  · obtain ⟨d, n, rfl, _⟩ := h
    rfl
  · obtain ⟨d, n, rfl, hd, hn, q⟩ := h
    have e15 : (10 : Int) ^ 15 = 1000000000000000 := by decide
    have e14 : (10 : Nat) ^ 14 = 100000000000000 := by decide
    rw [e14] at q
    have lg : ∀ i : Nat, i < 100 → (i : Int).natAbs.log2 < 9000 := fun i hi => Nat.lt_trans (PySem.Flt.log2_lt_of (k := 10) (by decide) (by show i < 2 ^ 10; omega)) (by decide)
    refine ⟨_, (PSs.nox (pss_cons (ps_set (i := 2) sc_law_form.nd rfl (.inl rfl) (pe_call G_law_roll (hr.mono (by decide)) (by rfl) T.g_law_roll T.F_law_roll.kp T.b_law_roll .nil pass0 (pa_cons (pv 0) (pa_cons pe_int pa_nil))))
    (pss_cons (ps_if (pt_cmpR op_eq (pv 2) pe_int (nomark _))
      (pss_one (ps_ret (pe_call G_law_all_product (hr.mono (by decide)) (by rfl) T.g_law_all_product T.F_law_all_product.kp T.b_law_all_product .nil pass0 (pa_cons (pe_lc (own := [("_law_turn", 3)]) (g := (gName 3)) (tt := tYes) (by rfl) sc_law_form.nd (pi_range1 (by rfl) T.z_range (pa_cons (pv 1) pa_nil)) (blkOk_by (N := N_law_form) (sc := defScope s_law_form) (by decide +kernel)) (fun _ _ _ _ _ => (pg_name (i := 3) sc_law_form.nd rfl (.inl rfl))) (fun _ _ _ _ _ => pts_nil) (fun _ _ _ _ _ => (pe_call G_law_line (hr.mono (by decide)) (by rfl) T.g_law_line T.F_law_line.kp T.b_law_line .nil pass0 (pa_cons (pe_call G_law_point hr (by rfl) T.g_law_point T.F_law_point.kp T.b_law_point .nil pass0 (pa_cons (pv 0) (pa_cons pe_int pa_nil))) pa_nil)))) pa_nil))))
      pss_nil)
    (pss_cons (ps_if (pt_cmpR op_eq (pv 2) pe_int (nomark _))
      (pss_cons (ps_par (i := 4) (j := 5) (by rfl) sc_law_form.nd rfl rfl (by decide) rfl rfl (pa_cons (pe_call G_law_line (hr.mono (by decide)) (by rfl) T.g_law_line T.F_law_line.kp T.b_law_line .nil pass0 (pa_cons (pe_call G_law_point hr (by rfl) T.g_law_point T.F_law_point.kp T.b_law_point .nil pass0 (pa_cons (pv 0) (pa_cons pe_int pa_nil))) pa_nil)) (pa_cons (pe_call G_law_roll (hr.mono (by decide)) (by rfl) T.g_law_roll T.F_law_roll.kp T.b_law_roll .nil pass0 (pa_cons (pv 0) (pa_cons (pe_op op_add (pv 1) pe_int) pa_nil))) pa_nil)) (by rfl))
      (pss_one (ps_ret (pe_call G_law_product (hr.mono (by decide)) (by rfl) T.g_law_product T.F_law_product.kp T.b_law_product .nil pass0 (pa_cons (pe_call G_law_power (hr.mono (by decide)) (by rfl) T.g_law_power T.F_law_power.kp T.b_law_power .nil pass0 (pa_cons (pv 4) (pa_cons (pv 5) pa_nil))) (pa_cons (pe_call G_law_small_form (hr.mono (by decide)) (by rfl) T.g_law_small_form T.F_law_small_form.kp T.b_law_small_form .nil pass0 (pa_cons (pv 0) (pa_cons (pe_op op_sub (pv 1) (pv 5)) (pa_cons pe_int pa_nil)))) pa_nil))))))
      pss_nil)
    (pss_cons (ps_if (pt_cmpR op_eq (pv 2) pe_int (nomark _))
      (pss_cons (ps_set (i := 6) sc_law_form.nd rfl (.inl rfl) (pe_tupleOf (by rfl) T.z_tuple (pe_lc (own := [("_law_place", 7)]) (g := (gName 7)) (tt := tYes) (by rfl) sc_law_form.nd (pi_range1 (by rfl) T.z_range (pa_cons (pe_op op_add (pv 1) pe_int) pa_nil)) (blkOk_by (N := N_law_form) (sc := defScope s_law_form) (by decide +kernel)) (fun _ _ _ _ _ => (pg_name (i := 7) sc_law_form.nd rfl (.inl rfl))) (fun _ _ _ _ _ => pts_nil) (fun _ _ _ _ _ => pe_int))))
      (pss_cons (ps_for PassesOwn.never (by rfl) (pi_range1 (by rfl) T.z_range (pa_cons (pe_op op_add pe_int (pe_call G_law_roll (hr.mono (by decide)) (by rfl) T.g_law_roll T.F_law_roll.kp T.b_law_roll .nil pass0 (pa_cons (pv 0) (pa_cons pe_int pa_nil)))) pa_nil)) (pg_name (i := 3) sc_law_form.nd rfl (.inl rfl))
        (pss_one (ps_set (i := 6) sc_law_form.nd rfl (.inl rfl) (pe_call G_law_plus (hr.mono (by decide)) (by rfl) T.g_law_plus T.F_law_plus.kp T.b_law_plus .nil pass0 (pa_cons (pv 6) (pa_cons (pe_call G_law_scaled (hr.mono (by decide)) (by rfl) T.g_law_scaled T.F_law_scaled.kp T.b_law_scaled .nil pass0 (pa_cons (pe_call G_law_power (hr.mono (by decide)) (by rfl) T.g_law_power T.F_law_power.kp T.b_law_power .nil pass0 (pa_cons (pe_call G_law_point hr (by rfl) T.g_law_point T.F_law_point.kp T.b_law_point .nil pass0 (pa_cons (pv 0) (pa_cons pe_int pa_nil))) (pa_cons (pv 1) pa_nil))) (pa_cons (pe_call G_law_near (hr.mono (by decide)) (by rfl) T.g_law_near T.F_law_near.kp T.b_law_near .nil pass0 (pa_cons (pv 0) (pa_cons pe_int pa_nil))) pa_nil))) pa_nil))))))
      (pss_one (ps_ret (pv 6)))))
      pss_nil)
    (pss_cons (ps_if (pt_cmpR op_eq (pv 2) pe_int (nomark _))
      (pss_one (ps_ret (pe_tupleOf (by rfl) T.z_tuple (pe_lc (own := [("_law_place", 7)]) (g := (gName 7)) (tt := tYes) (by rfl) sc_law_form.nd (pi_range1 (by rfl) T.z_range (pa_cons (pe_op op_add (pv 1) pe_int) pa_nil)) (blkOk_by (N := N_law_form) (sc := defScope s_law_form) (by decide +kernel)) (fun _ _ _ _ _ => (pg_name (i := 7) sc_law_form.nd rfl (.inl rfl))) (fun _ _ _ _ _ => pts_nil) (fun _ _ _ _ _ => (pe_op op_mulW (pe_call G_law_near (hr.mono (by decide)) (by rfl) T.g_law_near T.F_law_near.kp T.b_law_near .nil pass0 (pa_cons (pv 0) (pa_cons pe_int pa_nil))) (pe_call G_law_roll (hr.mono (by decide)) (by rfl) T.g_law_roll T.F_law_roll.kp T.b_law_roll .nil pass0 (pa_cons (pv 0) (pa_cons pe_int pa_nil)))))))))
      pss_nil)
    (pss_cons (ps_if (pw_and (pt_cmpR op_eq (pv 2) pe_int (nomark _)) (pw_and1 (pt_cmpR op_eq (pe_call G_law_roll (hr.mono (by decide)) (by rfl) T.g_law_roll T.F_law_roll.kp T.b_law_roll .nil pass0 (pa_cons (pv 0) (pa_cons pe_int pa_nil))) pe_int (nomark _)))).pt
      (pss_one (ps_ret (pe_tupleOf (by rfl) T.z_tuple (pe_lc (own := [("_law_place", 7)]) (g := (gName 7)) (tt := tYes) (by rfl) sc_law_form.nd (pi_range1 (by rfl) T.z_range (pa_cons (pe_op op_add (pv 1) pe_int) pa_nil)) (blkOk_by (N := N_law_form) (sc := defScope s_law_form) (by decide +kernel)) (fun _ _ _ _ _ => (pg_name (i := 7) sc_law_form.nd rfl (.inl rfl))) (fun _ _ _ _ _ => pts_nil) (fun _ _ _ _ _ => (pe_call G_law_near (hr.mono (by decide)) (by rfl) T.g_law_near T.F_law_near.kp T.b_law_near .nil pass0 (pa_cons (pv 0) (pa_cons (pe_op op_pow pe_int pe_int) pa_nil))))))))
      pss_nil)
    (pss_one (ps_ret (pe_call G_law_small_form (hr.mono (by decide)) (by rfl) T.g_law_small_form T.F_law_small_form.kp T.b_law_small_form .nil pass0 (pa_cons (pv 0) (pa_cons (pv 1) (pa_cons pe_int pa_nil))))))))))))), ?_⟩
    refine ⟨_, rfl, d, 6, rfl, hd, by decide, lg 6 (by decide), fun r H1 hr1 s1 d1 => ⟨_, rfl, rfl, _, rfl, iteI (fun _ => ?_) (fun r0 => ⟨_, rfl, rfl, _, rfl, iteI (fun _ => ?_) (fun r1 => ⟨_, rfl, rfl, _, rfl, iteI (fun _ => ?_) (fun r2 => ⟨_, rfl, rfl, _, rfl, iteI (fun _ => ?_) (fun r3 => ?_)⟩)⟩)⟩)⟩⟩
    · -- lines
      refine ⟨_, rfl, n, rfl, by omega, by omega, fun D hD => lc_range (n := (n : Int).toNat) (fun j H' => Sx d H H' ∧ Dc H' d ∧ ∃ (rs : List Addr) (ls : List (List Int)), H' D = some (.lst (rs.map V.ref)) ∧ rs.length = j ∧ ls.length = j ∧ (∀ i (h : i < ls.length) (h' : i < rs.length), H' rs[i] = some (tp ls[i])) ∧ ∀ l ∈ ls, Bd l 1 6) ⟨s1.trans (Sx.of (same_upd0 hD)), d1.same (same_upd0 hD), [], [], upd_same, rfl, rfl, fun i h _ => absurd h (Nat.not_lt_zero i), fun l h => (nomatch h)⟩ (fun j H' hj hP => ?_) (fun H' hP => ?_)⟩
      · obtain ⟨sH, dH, rs, ls, hL, hl1, hl2, hr, hb⟩ := hP
        refine ⟨rfl, _, rfl, d, 3, rfl, dH, by decide, by decide, fun p H2 u v s2 d2 hp hu hv => ⟨p, u, v, rfl, hp, fun p2 n2 => gen_upd H2 p2 _ n2 fun H3 s3 f3 => ?_⟩⟩
        have nD : D ≠ d := d1.ne hD
        have hL3 := s3 _ _ (s2 D _ nD hL)
        have dD : ∀ a l, H3 a = some (tp l) → a ≠ D := fun a l e z => by
          rw [z, hL3] at e
          cases e
        have d3 := d2.same s3
        refine ⟨_, hL3, by rw [List.length_map, hl1]; exact small1000 (by omega), fun b o hb2 e => ?_, ?_, rs ++ [p2], ls ++ [[v, 0 - u]], by rw [upd_same, List.map_append]; rfl, by rw [List.length_append, hl1]; rfl, by rw [List.length_append, hl2]; rfl, fun i h h' => ?_, fun l hl => ?_⟩
        · rw [upd_ne (ne_of_none (s1 b o hb2 e) hD)]
          exact s3 _ _ (s2 b o hb2 (sH b o hb2 e))
        · obtain ⟨x, y, z, e⟩ := d3
          exact ⟨x, y, z, by rw [upd_ne (Ne.symm nD)]; exact e⟩
        · by_cases c : i < ls.length
          · have e1 : (rs ++ [p2])[i] = rs[i]'(by omega) := List.getElem_append_left _
            have e2 : (ls ++ [[v, 0 - u]])[i] = ls[i] := List.getElem_append_left _
            rw [e1, e2]
            have e3 := s3 _ _ (s2 _ _ (dc_ne dH (hr i c (by omega))) (hr i c (by omega)))
            rw [upd_ne (dD _ _ e3)]
            exact e3
          · have ei : i = ls.length := by rw [List.length_append] at h; simp at h; omega
            subst ei
            have e1 : (rs ++ [p2])[ls.length] = p2 := by rw [List.getElem_append_right (by omega)]; simp [hl1, hl2]
            have e2 : (ls ++ [[v, 0 - u]])[ls.length] = [v, 0 - u] := by rw [List.getElem_append_right (by omega)]; simp
            rw [e1, e2, upd_ne (dD _ _ f3)]
            exact f3
        · rcases List.mem_append.mp hl with e | e
          · exact hb l e
          · rw [List.mem_singleton.mp e]
            exact bd_line hu hv
      · obtain ⟨sH, dH, rs, ls, hL, hl1, hl2, hr, hb⟩ := hP
        have hnn : ls.length = n := by omega
        refine ⟨D, rs, ls, rfl, hL, by omega, fun i h h' => ⟨hr i h h', (hb _ (List.getElem_mem h)).rw (by omega) (by decide)⟩, fun i hi => (bd_all hb i (by omega)).rw (by omega) (Nat.lt_of_le_of_lt (p6 (by omega)) (by decide)), fun p H3 s3 f3 => q p H3 _ (sH.trans (Sx.of s3)) (dH.same s3) f3 ?_⟩
        rw [hnn]
        exact (bd_all hb n (by omega)).mono (Nat.le_trans (p6 hn) (by decide))
    · -- a power of a line, times
      refine ⟨_, rfl, d, 3, rfl, d1, by decide, by decide, fun p H2 u v s2 d2 hp hu hv => ⟨p, u, v, rfl, hp, fun p2 n2 => gen_upd H2 p2 _ n2 fun H3 s3 f3 => ⟨_, rfl, _, rfl, _, _, rfl, rfl, ?_⟩⟩⟩
      have d3 := d2.same s3
      refine ⟨d, _, rfl, d3, by omega, lg (n + 1) (by omega), fun k H4 hk s4 d4 => ⟨_, _, rfl, ?_⟩⟩
      have hk' : k ≤ n := by have : (k : Int) < (n : Int) + 1 := hk; omega
      have f4 := s4 _ _ (dc_ne d3 f3) f3
      have bl : Bd [v, 0 - u] 1 6 := bd_line hu hv
      refine ⟨_, rfl, _, rfl, p2, _, k, rfl, f4, bl.ne, by show 2 ≤ 100; decide, fun x hx => (bl.rw (by decide) (Nat.lt_of_lt_of_le (show 6 < 2 ^ 4 by decide) (Nat.pow_le_pow_right (by decide) (by decide)))).sm x hx, fun i hi => ?_, by omega, fun p5 H5 s5 f5 => ?_⟩
      · have := (bd_pow bl i).rw (by omega) (Nat.lt_of_le_of_lt (p6 (by omega)) (by decide))
        exact ⟨this.ne, this.len, this.sm⟩
      · have d5 := d4.same s5
        refine ⟨_, rfl, _, rfl, _, rfl, _, _, rfl, rfl, d, n - k, 4, by show [V.ref d, V.int ((n : Int) - (k : Int)), V.int 4] = [V.ref d, V.int ((n - k : Nat) : Int), V.int 4]; rw [Int.ofNat_sub hk'], d5, by omega, by decide, fun p6' H6 l6 s6 d6 f6 hl6 hm6 => ?_⟩
        have f5' := s6 _ _ (dc_ne d5 f5) f5
        have b1 := bd_pow bl k
        have b2 := bd_small hl6 hm6
        have r1 := b1.rw (by omega) (Nat.lt_of_le_of_lt (p6 (by omega)) (by decide))
        have r2 := b2.rw (by omega) (Nat.lt_of_le_of_lt (show (n - k + 1) * 4 ≤ 36 by omega) (by decide))
        refine ⟨p5, p6', _, l6, rfl, f5', f6, r1.ne, r2.ne, r1.len, r2.len, r1.sm, r2.sm, fun p7 H7 s7 _ f7 => q p7 H7 _ ((((s1.trans s2).trans (Sx.of s3)).trans s4).trans (((Sx.of s5).trans s6).trans (Sx.of s7))) (d6.same s7) f7 ?_⟩
        have b3 := bd_ml b1 b2
        rw [show k + (n - k) = n by omega] at b3
        exact b3.mono (Nat.le_trans (Nat.mul_le_mul (p6 (by omega)) (show (n - k + 1) * 4 ≤ 36 by omega)) (by decide))
    · -- sums of powers
      refine ⟨_, rfl, _, _, rfl, rfl, _, rfl, by show -(2 ^ 62) ≤ (n : Int) + 1; omega, by show (n : Int) + 1 < 2 ^ 62; omega, fun D hD => lc_range (n := ((n : Int) + 1).toNat) (fun j H' => H' = upd H1 D (.lst (tab j fun _ => 0))) rfl (fun j H' hj hP => ?_) (fun H' hP => ?_)⟩
      · subst hP
        refine ⟨rfl, ⟨_, upd_same, by rw [tab_len]; exact small1000 (by omega), ?_⟩⟩
        rw [upd_upd, ← tab_snoc]
      · subst hP
        rw [show ((n : Int) + 1).toNat = n + 1 by omega, tab_tb]
        refine .inl ⟨D, _, rfl, SqL.of upd_same, fun p hp => gen_upd (upd H1 D _) p _ hp fun H2 s2 f2 => ?_⟩
        have s02 := (same_upd0 (o := HO.lst ((tb (n + 1) fun _ => 0).map V.int)) hD).trans s2
        have d2 := d1.same s02
        have b0 : Bd (tb (n + 1) fun _ => 0) n 0 := ⟨tb_len _ _, by
          rw [nm_tb]
          have : ∀ k, sN k (fun _ => 0) = 0 := by
            intro k
            induction k with
            | zero => rfl
            | succ k ih => show sN k (fun _ => 0) + 0 = 0; rw [ih]
          rw [this]
          exact Nat.le_refl _⟩
        refine ⟨_, rfl, d, 3, rfl, d2, by decide, lg 3 (by decide), fun k H3 hk s3 d3 => ⟨_, _, rfl, rfl, _, rfl, by omega, by omega, ?_⟩⟩
        have f3 := s3 _ _ (dc_ne d2 f2) f2
        have hk3 : (k : Int) < 3 := hk
        refine for_range (n := (1 + (k : Int)).toNat) (fun i σ H' => ∃ r y3 y4 y5 y7 l, σ = [some (.ref d), some (.int n), some (.int (r : Int)), y3, y4, y5, some (.ref y7), none] ∧ Sx d H1 H' ∧ Dc H' d ∧ H' y7 = some (tp l) ∧ Bd l n (i * 6718464)) ⟨_, _, _, _, _, _, rfl, (Sx.of s02).trans s3, d3, f3, b0.mono (Nat.zero_le _)⟩ (fun i σ H' hi hP => ?_) (fun σ H' hP => ?_)
        · obtain ⟨r', y3, y4, y5, y7, l, rfl, sH, dH, hl, bl⟩ := hP
          refine ⟨_, rfl, _, rfl, d, 3, rfl, dH, by decide, by decide, fun p4 H4 u v s4 d4 h4 hu hv => ⟨_, rfl, ?_⟩⟩
          have bp : Bd [u, v] 1 6 := bd_pair hu hv
          refine ⟨p4, _, n, rfl, h4, bp.ne, by show 2 ≤ 100; decide, fun x hx => (bp.rw (by decide) (Nat.lt_of_lt_of_le (show 6 < 2 ^ 4 by decide) (Nat.pow_le_pow_right (by decide) (by decide)))).sm x hx, fun i hi => ?_, by omega, fun p5 H5 s5 f5 => ?_⟩
          · have := (bd_pow bp i).rw (by omega) (Nat.lt_of_le_of_lt (p6 (by omega)) (by decide))
            exact ⟨this.ne, this.len, this.sm⟩
          · have d5 := d4.same s5
            have b5 := bd_pow bp n
            have r5 := b5.rw (by omega) (Nat.lt_of_le_of_lt (p6 (by omega)) (by decide))
            refine ⟨_, rfl, d, 4, rfl, d5, by decide, by rw [e15]; decide, fun c H6 c1 c2 s6 d6 => ?_⟩
            have f6 := s6 _ _ (dc_ne d5 f5) f5
            refine ⟨p5, _, c, rfl, f6, r5.len, r5.sm, Nat.lt_of_le_of_lt (show c.natAbs ≤ 4 by omega) (by decide), fun p7 H7 s7 _ f7 => ?_⟩
            have b7 := bd_scale (d := 4) b5 (show c.natAbs ≤ 4 by omega)
            have hl7 := s7 _ _ (s6 _ _ (dc_ne d5 (s5 _ _ (s4 _ _ (dc_ne dH hl) hl))) (s5 _ _ (s4 _ _ (dc_ne dH hl) hl)))
            refine ⟨_, p7, l, _, rfl, hl7, f7, by rw [bl.len, b7.len], by rw [bl.len]; omega, fun p8 H8 s8 _ f8 => ⟨_, _, _, _, p8, _, rfl, ((sH.trans s4).trans ((Sx.of s5).trans s6)).trans ((Sx.of s7).trans (Sx.of s8)), (d6.same s7).same s8, f8, (bd_zs bl b7).mono ?_⟩⟩
            have : 4 * 6 ^ n ≤ 4 * 1679616 := Nat.mul_le_mul (Nat.le_refl _) (p6 hn)
            rw [Nat.succ_mul]
            omega
        · obtain ⟨r', y3, y4, y5, y7, l, rfl, sH, dH, hl, bl⟩ := hP
          exact ⟨_, rfl, q y7 H' l (s1.trans sH) dH hl (bl.mono (by omega))⟩
    · -- some entries, some zeros
      refine ⟨_, rfl, _, _, rfl, rfl, _, rfl, by show -(2 ^ 62) ≤ (n : Int) + 1; omega, by show (n : Int) + 1 < 2 ^ 62; omega, fun D hD => lc_range (n := ((n : Int) + 1).toNat) (fun j H' => Sx d H1 H' ∧ Dc H' d ∧ ∃ l : List Int, H' D = some (.lst (l.map V.int)) ∧ l.length = j ∧ ∀ x ∈ l, x.natAbs ≤ 3) ⟨Sx.of (same_upd0 hD), d1.same (same_upd0 hD), [], upd_same, rfl, fun x hx => by cases hx⟩ (fun j H' hj hP => ?_) (fun H' hP => ?_)⟩
      · obtain ⟨sH, dH, l, hL, hl, hb⟩ := hP
        have nD : D ≠ d := d1.ne hD
        refine ⟨rfl, _, rfl, d, 3, rfl, dH, by decide, by rw [e15]; decide, fun c H2 c1 c2 s2 d2 => ⟨_, rfl, d, 2, rfl, d2, by decide, lg 2 (by decide), fun k H3 hk s3 d3 => ⟨_, _, rfl, rfl, sm_mul (Nat.lt_of_le_of_lt (show c.natAbs ≤ 3 by omega) (by decide)) (Nat.lt_of_le_of_lt (show ((k : Nat) : Int).natAbs ≤ 2 by have : (k : Int) < 2 := hk; omega) (by decide)), _, s3 D _ nD (s2 D _ nD hL), ?_, fun b o hb2 e => ?_, ?_, l ++ [c * (k : Int)], ?_, ?_, fun x hx => ?_⟩⟩⟩
        · rw [List.length_map]
          exact small1000 (by omega)
        · rw [upd_ne (ne_of_none e hD)]
          exact (sH.trans (s2.trans s3)) b o hb2 e
        · obtain ⟨x, y, z, e⟩ := d3
          exact ⟨x, y, z, by rw [upd_ne (Ne.symm nD)]; exact e⟩
        · rw [upd_same, List.map_append]
          rfl
        · rw [List.length_append, hl]
          rfl
        · rcases List.mem_append.mp hx with e | e
          · exact hb x e
          · rw [List.mem_singleton.mp e]
            have hk2 : (k : Int) < 2 := hk
            rw [Int.natAbs_mul]
            have := Nat.mul_le_mul (show c.natAbs ≤ 3 by omega) (show ((k : Nat) : Int).natAbs ≤ 1 by omega)
            omega
      · obtain ⟨sH, dH, l, hL, hl, hb⟩ := hP
        refine .inl ⟨D, _, rfl, SqL.of hL, fun p hp2 => ?_⟩
        exact q p _ l (s1.trans (sH.trans (Sx.of (same_upd0 hp2)))) (dH.same (same_upd0 hp2)) upd_same ((bd_small (n := n) (by omega) hb).mono (Nat.le_trans (Nat.mul_le_mul (show n + 1 ≤ 9 by omega) (Nat.le_refl _)) (by decide)))
    · -- great entries, or small ones
      have small : ∀ H2, Sx d H H2 → Dc H2 d → spSmall [V.ref d, V.int (n : Int), V.int 6] H2 Q E0 := fun H2 s2 d2 => ⟨d, n, 6, rfl, d2, by omega, by decide, fun p H3 l s3 d3 f3 hl hm => q p H3 l (s2.trans s3) d3 f3 ((bd_small hl hm).mono (by omega))⟩
      refine ⟨_, rfl, rfl, _, rfl, iteI (fun _ => ?_) (fun _ => ?_)⟩
      · refine ⟨_, rfl, d, 4, rfl, d1, by decide, lg 4 (by decide), fun k H2 hk s2 d2 => ⟨rfl, _, rfl, iteI (fun _ => ?_) (fun _ => ?_)⟩⟩
        · -- great entries
          refine ⟨_, rfl, _, _, rfl, rfl, _, rfl, by show -(2 ^ 62) ≤ (n : Int) + 1; omega, by show (n : Int) + 1 < 2 ^ 62; omega, fun D hD => lc_range (n := ((n : Int) + 1).toNat) (fun j H' => Sx d H2 H' ∧ Dc H' d ∧ ∃ l : List Int, H' D = some (.lst (l.map V.int)) ∧ l.length = j ∧ ∀ x ∈ l, x.natAbs ≤ 1000000000000) ⟨Sx.of (same_upd0 hD), d2.same (same_upd0 hD), [], upd_same, rfl, fun x hx => by cases hx⟩ (fun j H' hj hP => ?_) (fun H' hP => ?_)⟩
          · obtain ⟨sH, dH, l, hL, hl, hb⟩ := hP
            have nD : D ≠ d := d2.ne hD
            refine ⟨rfl, _, rfl, 10, 12, rfl, rfl, ⟨by decide, by decide, by decide⟩, d, 1000000000000, rfl, dH, by decide, by rw [e15]; decide, fun r H2 r1 r2 s2 d2 => ⟨_, s2 D _ nD hL, ?_, fun b o hb2 e => ?_, ?_, l ++ [r], ?_, ?_, fun x hx => ?_⟩⟩
            · rw [List.length_map]
              exact small1000 (by omega)
            · rw [upd_ne (ne_of_none e hD)]
              exact (sH.trans s2) b o hb2 e
            · obtain ⟨x, y, z, e⟩ := d2
              exact ⟨x, y, z, by rw [upd_ne (Ne.symm nD)]; exact e⟩
            · rw [upd_same, List.map_append]
              rfl
            · rw [List.length_append, hl]
              rfl
            · rcases List.mem_append.mp hx with e | e
              · exact hb x e
              · rw [List.mem_singleton.mp e]
                omega
          · obtain ⟨sH, dH, l, hL, hl, hb⟩ := hP
            refine .inl ⟨D, _, rfl, SqL.of hL, fun p hp2 => ?_⟩
            exact q p _ l ((s1.trans s2).trans (sH.trans (Sx.of (same_upd0 hp2)))) (dH.same (same_upd0 hp2)) upd_same ((bd_small (n := n) (by omega) hb).mono (Nat.le_trans (Nat.mul_le_mul (show n + 1 ≤ 9 by omega) (Nat.le_refl _)) (by decide)))
        · exact ⟨_, rfl, _, rfl, small H2 (s1.trans s2) d2⟩
      · exact ⟨_, rfl, _, rfl, small H1 s1 d1⟩
end
end K65

set_option Elab.async false
set_option linter.all false
set_option maxRecDepth 100000
set_option maxHeartbeats 4000000
namespace K65
open PySem PySem.Spec PyProof.Rows L2 StX RZ MyR SlX OwnR OwnF EnumT
/-! what is said of forms by those who use them (for other laws: K65u, K65v, K65y hold the same) -/
section
variable {P : Program} {w : World} {K : PySem.W.Frag} {mg : Str → Option Value} {base : Heap}
/-- what is asked of a told row -/
structure Tr (l : List Int) : Prop where
  ne : l ≠ []
  len : l.length ≤ 40
  sho : ∀ x ∈ l, Sho x
theorem Tr.rw {l : List Int} (h : Tr l) : Rw l := ⟨h.ne, by have := h.len; omega, fun x hx => Nat.lt_trans (h.sho x hx) (by decide)⟩
theorem Tr.pos {l : List Int} (h : Tr l) : 1 ≤ l.length := List.length_pos_iff.mpr h.ne
theorem shaped_lints (ns : List Int) : SeqAt.shaped (.list (ns.map PyData.int)) = true := by
  unfold SeqAt.shaped
  rw [show PyData.canLay0 (.list (ns.map PyData.int)) = PyData.canLayAll0 (ns.map PyData.int) from rfl, lay_ints]
  rw [show PyData.depth (.list (ns.map PyData.int)) = PyData.depthAll (ns.map PyData.int) + 1 from rfl, depth_ints]
  rfl
theorem notFirst_self {K : PySem.W.Frag} {C : Addr} : PySem.W.notFirst K C (.ref C) = true := by
  unfold PySem.W.notFirst
  rw [beq_self_eq_true]
  rfl
/-- Form(t) -/
theorem made_form {C x dx t : Addr} {l : List Int} {H0 H2 : Hp} (hx : H0 x = none) (hdx : H0 dx = none) (hne : dx ≠ x) (s : Same (upd (upd H0 dx (.own x)) x (.ins C dx [])) H2) (ht : H0 t = some (tp l)) : Same H0 (slH H2 x C dx [some (.ref t)]) ∧ Fo C (slH H2 x C dx [some (.ref t)]) x l := by
  have s3 := made (v := .ref t) hx hdx hne s
  refine ⟨s3, dx, t, upd_same, ?_, s3 _ _ ht⟩
  unfold slH
  rw [upd_ne hne, upd_same]
theorem eq_forms {X : Cx} {C a b : Addr} {H : Hp} {xs ys : List Int} {Q : VK} (c : OC X.K C) (fa : Fo C H a xs) (fb : Fo C H b ys) (q : Q (.bl (decide (xs = ys))) H) : rEqO X C (spEqF C) E0 (.ref a) (.ref b) H Q := by
  obtain ⟨dx, t, ha, _⟩ := fa.slt
  obtain ⟨dy, u, hb, _⟩ := fb.slt
  exact ⟨a, dx, _, .ref C, rfl, ha, .inst hb, notFirst_self, a, xs, b, rfl, fa, .inl ⟨ys, fb, q⟩⟩
theorem Fo.sx {C a d : Addr} {H H' : Hp} {ns : List Int} (h : Fo C H a ns) (hd : Dc H d) (s : Sx d H H') : Fo C H' a ns := by
  obtain ⟨dx, t, h1, h2, h3⟩ := h
  obtain ⟨x, y, z, e⟩ := hd
  refine ⟨dx, t, s _ _ (fun q => ?_) h1, s _ _ (fun q => ?_) h2, s _ _ (fun q => ?_) h3⟩
  · rw [q, e] at h1
    cases h1
  · rw [q, e] at h2
    cases h2
  · rw [q, e] at h3
    cases h3
theorem mkF {CT C x dx t : Addr} {H : Hp} {l : List Int} {R : Hp → Prop} (hx : H x = none) (hdx : H dx = none) (hne : dx ≠ x) (ht : H t = some (tp l)) (h1 : 1 ≤ l.length) (h2 : l.length ≤ 41) (hs : ∀ z ∈ l, Sho z) (q : ∀ H', Same H H' → Fo C H' x l → R H') :
    spForm CT C [.ref x, .ref t] (upd (upd H dx (.own x)) x (.ins C dx [])) (fun v H2 => v = .non ∧ R H2) E0 := by
  refine ⟨x, dx, t, t, rfl, .inl ⟨upd_same, rfl⟩, .inr ⟨l, rfl, ?_, h1, h2, hs⟩, fun H2 s2 => ⟨rfl, ?_⟩⟩
  · rw [upd_ne (ne_of_none ht hx), upd_ne (ne_of_none ht hdx)]
    exact ht
  · obtain ⟨s, f⟩ := made_form hx hdx hne s2 ht
    exact q _ s f
theorem Bd.tr {l : List Int} {n b : Nat} (h : Bd l n b) (hn : n ≤ 39) (hb : b < 10 ^ 60) : Tr l := ⟨h.ne, by rw [h.len]; omega, fun x hx => Nat.lt_of_le_of_lt (h.mem x hx) hb⟩
/-- a pair of a form and its row -/
structure Pa (C : Addr) (H : Hp) (v : V) (l : List Int) : Prop where
  tr : Tr l
  at_ : ∃ p f t, v = .ref p ∧ H p = some (.tup [.ref f, .ref t]) ∧ Fo C H f l ∧ H t = some (tp l)
theorem Pa.same {C : Addr} {H H' : Hp} {v : V} {l : List Int} (h : Pa C H v l) (s : Same H H') : Pa C H' v l := by
  obtain ⟨p, f, t, e, h1, h2, h3⟩ := h.at_
  exact ⟨h.tr, p, f, t, e, s _ _ h1, h2.same s, s _ _ h3⟩
theorem prop_prim {C a : Addr} {H : Hp} {xs : List Int} {Q : VK} (fa : Fo C H a xs) (r : Rw xs) (q : ∀ p H', Same H H' → Fo C H' p (prim xs) → Q (.ref p) H') : ∃ a' dx vs, V.ref a = .ref a' ∧ Slt H a' C dx vs ∧ spPrm C [.ref a'] H Q E0 := by
  obtain ⟨dx, t, ha, _⟩ := fa.slt
  exact ⟨a, dx, _, rfl, ha, a, xs, rfl, fa, r, q⟩
theorem prop_ent {C a : Addr} {H : Hp} {xs : List Int} {Q : VK} (fa : Fo C H a xs) (q : ∀ t, H t = some (tp xs) → Q (.ref t) H) : ∃ a' dx vs, V.ref a = .ref a' ∧ Slt H a' C dx vs ∧ spEnt C [.ref a'] H Q E0 := by
  obtain ⟨dx, t, ha, _⟩ := fa.slt
  exact ⟨a, dx, _, rfl, ha, a, xs, rfl, fa, q⟩
theorem prop_zero {C a : Addr} {H : Hp} {xs : List Int} {Q : VK} (fa : Fo C H a xs) (q : Q (.bl (!xs.any (· != 0))) H) : ∃ a' dx vs, V.ref a = .ref a' ∧ Slt H a' C dx vs ∧ spIsZ C [.ref a'] H Q E0 := by
  obtain ⟨dx, t, ha, _⟩ := fa.slt
  exact ⟨a, dx, _, rfl, ha, a, xs, rfl, fa, q⟩
theorem prop_deg {C a : Addr} {H : Hp} {xs : List Int} {Q : VK} (fa : Fo C H a xs) (q : Q (.int ((xs.length : Int) - 1)) H) : ∃ a' dx vs, V.ref a = .ref a' ∧ Slt H a' C dx vs ∧ spDeg C [.ref a'] H Q E0 := by
  obtain ⟨dx, t, ha, _⟩ := fa.slt
  exact ⟨a, dx, _, rfl, ha, a, xs, rfl, fa, q⟩
end
end K65

set_option Elab.async false
set_option linter.all false
set_option maxRecDepth 100000
/-! values of forms; a form is told by its values -/
namespace K65
/-- the value at x, y of the first n entries -/
def evF : Nat → (Nat → Int) → Int → Int → Int
  | 0, _, _, _ => 0
  | n + 1, g, x, y => x * evF n g x y + g n * y ^ n
def ev (l : List Int) (x y : Int) : Int := evF l.length (co l) x y
end K65

set_option Elab.async false
set_option linter.all false
set_option maxRecDepth 100000
/-! changed forms, derived forms: the plain law -/
namespace K65
theorem pow_ne {l : List Int} (h : l ≠ []) : ∀ n, pow l n ≠ []
  | 0 => by show [1] ≠ []; simp
  | n + 1 => ml_ne (pow_ne h n) h
theorem pow_len {l : List Int} (h : l.length = 2) : ∀ n, (pow l n).length = n + 1
  | 0 => rfl
  | n + 1 => by
    show (ml (pow l n) l).length = _
    rw [ml_len, pow_len h n, h]
    omega
theorem zs_len {c : Int} {l m : List Int} (h : l.length = m.length) : (zs c l m).length = l.length := by unfold zs; rw [List.length_zipWith, h, Nat.min_self]
theorem pow_zero {c : Int} : ∀ {n : Nat}, c ^ n = 0 → c = 0
  | 0, h => by rw [Int.pow_zero] at h; cases h
  | n + 1, h => by
    rw [Int.pow_succ] at h
    rcases Int.mul_eq_zero.mp h with e | e
    · exact pow_zero e
    · exact e
/-! ### values -/
def vf (x y : Int) : List Int → Int → Int → Int
  | [], f, _ => f
  | e :: r, f, p => vf x y r (f * x + e * p) (p * y)
/-! ### derivatives -/
/-- derived by x, by y -/
def dX (l : List Int) : List Int := tb (l.length - 1) fun k => co l k * ((l.length : Int) - 1 - k)
def dY (l : List Int) : List Int := tb (l.length - 1) fun k => co l (k + 1) * ((k : Int) + 1)
theorem dX_len (l : List Int) : (dX l).length = l.length - 1 := tb_len _ _
theorem dY_len (l : List Int) : (dY l).length = l.length - 1 := tb_len _ _
theorem co_zs' (c : Int) {l m : List Int} (h : l.length = m.length) (k : Nat) : co (zs c l m) k = co l k + c * co m k := by
  unfold zs
  by_cases hk : k < l.length
  · rw [co_get (by rw [List.length_zipWith]; omega), co_get hk, co_get (by omega), List.getElem_zipWith]
  · rw [co_far (by rw [List.length_zipWith]; omega), co_far (by omega), co_far (by omega), Int.mul_zero]
    rfl
def it (f : List Int → List Int) : Nat → List Int → List Int
  | 0, l => l
  | n + 1, l => f (it f n l)
theorem dX_it_len (l : List Int) : ∀ n, (it dX n l).length = l.length - n
  | 0 => rfl
  | n + 1 => by
    show (dX (it dX n l)).length = _
    rw [dX_len, dX_it_len l n]
    omega
theorem dY_it_len (l : List Int) : ∀ n, (it dY n l).length = l.length - n
  | 0 => rfl
  | n + 1 => by
    show (dY (it dY n l)).length = _
    rw [dY_len, dY_it_len l n]
    omega
/-- derived i times by x, j times by y -/
def dd (i j : Nat) (l : List Int) : List Int := it dY j (it dX i l)
theorem dd_len (i j : Nat) (l : List Int) : (dd i j l).length = l.length - i - j := by
  unfold dd
  rw [dY_it_len, dX_it_len]
end K65

set_option Elab.async false
set_option linter.all false
set_option maxRecDepth 100000
set_option maxHeartbeats 4000000
namespace K65
open PySem PySem.Spec PyProof.Rows L2 StX RZ MyR SlX OwnR OwnF EnumT
/-- a comprehension over enumerate of a tuple -/
theorem lc_enumT {K : PySem.W.Frag} {a : Addr} {xs : List V} {g : TG} {tt : TT} {te : TE} {vs : List Nat} {σ : L2.St} {H1 : Hp} {D : Addr} {Qd : Hp → Prop} (Pv : Nat → Hp → Prop) (h0 : Pv 0 (upd H1 D (.lst []))) (hq : ∀ i H, i ≤ xs.length → Pv i H → SqT K H a xs)
    (hs : ∀ (i : Nat) (x : V) (T : Addr) (H : Hp), xs[i]? = some x → Pv i H → H T = none → g (.ref T) (wipe σ vs) (upd H T (.tup [.int (i : Nat), x])) fun σ2 H2 => wipe σ2 vs = wipe σ vs ∧ tt σ2 H2 fun b H3 =>
      if b = true then te σ2 H3 fun y H4 => ∃ acc, H4 D = some (.lst acc) ∧ acc.length < sizeLine ∧ Pv (i + 1) (upd H4 D (.lst (acc ++ [y]))) else Pv (i + 1) H3) (hd : ∀ H, Pv xs.length H → Qd H) :
    ∃ W : Nat → Nat → Hp → Prop, (∃ m, W 0 m (upd H1 D (.lst []))) ∧ ∀ i m H, W i m H →
      ((IteT K a).stop i H ∧ Qd H) ∨ ((IteT K a).go i H ∧ ∃ Nx : Hp → Prop, (∀ H', Nx H' → ∃ m', m' < m ∧ W (i + 1) m' H') ∧ ∀ x H', (IteT K a).yld i H x H' → g x (wipe σ vs) H' fun σ2 H2 => wipe σ2 vs = wipe σ vs ∧ tt σ2 H2 fun b H3 =>
        if b = true then te σ2 H3 fun y H4 => ∃ acc, H4 D = some (.lst acc) ∧ acc.length < sizeLine ∧ Nx (upd H4 D (.lst (acc ++ [y]))) else Nx H3) := by
  refine ⟨fun i m H => m = xs.length - i ∧ i ≤ xs.length ∧ Pv i H, ⟨xs.length, by simp, Nat.zero_le _, h0⟩, ?_⟩
  rintro i m H ⟨rfl, hi, p⟩
  have qx := hq i H hi p
  by_cases hlt : i < xs.length
  · have hx : xs[i]? = some xs[i] := List.getElem?_eq_getElem hlt
    refine .inr ⟨⟨xs, _, qx, hx⟩, Pv (i + 1), fun H' p' => ⟨xs.length - (i + 1), by omega, rfl, hlt, p'⟩, fun v H' y => ?_⟩
    obtain ⟨T, x', rfl, hT, rfl, f1⟩ := y
    exact hs i x' T H (f1 xs qx) p hT
  · have e : i = xs.length := by omega
    subst e
    exact .inl ⟨⟨xs, qx, rfl⟩, hd H p⟩
section
variable {P : Program} {w : World} {K : PySem.W.Frag} {mg : Str → Option Value} {base : Heap}
/-! ### values -/
/-- what is asked of a value's letters -/
structure Vb (l : List Int) (x y : Int) (M : Nat) : Prop where
  x : x.natAbs ≤ M
  y : y.natAbs ≤ M
  one : 1 ≤ M
  big : nm l * M ^ l.length < 2 ^ 4000
  pw : M ^ (l.length + 1) < 2 ^ 4000
/-! ### changes -/
/-- a table of two rows of two -/
def Tb (H : Hp) (t : Addr) (X Y : List Int) : Prop := ∃ r0 r1, H t = some (.tup [.ref r0, .ref r1]) ∧ H r0 = some (tp X) ∧ H r1 = some (tp Y)
theorem Tb.same {H H' : Hp} {t : Addr} {X Y : List Int} (h : Tb H t X Y) (s : Same H H') : Tb H' t X Y := by
  obtain ⟨r0, r1, h1, h2, h3⟩ := h
  exact ⟨r0, r1, s _ _ h1, s _ _ h2, s _ _ h3⟩
theorem Tb.sx {H H' : Hp} {t d : Addr} {X Y : List Int} (h : Tb H t X Y) (hd : Dc H d) (s : Sx d H H') : Tb H' t X Y := by
  obtain ⟨r0, r1, h1, h2, h3⟩ := h
  exact ⟨r0, r1, s _ _ (dc_ne hd h1) h1, s _ _ (dc_ne hd h2) h2, s _ _ (dc_ne hd h3) h3⟩
/-- short pairs -/
structure Pr2 (X : List Int) : Prop where
  len : X.length = 2
  sho : ∀ x ∈ X, Sho x
theorem sIx_neg {n : Nat} (h : 1 ≤ n) : HT.sIx n n (some (-1)) = n - 1 := by
  unfold HT.sIx
  simp only []
  split <;> omega
theorem cut_tail (xs : List V) (h : 1 ≤ xs.length) : cutV xs (some 1) none = xs.drop 1 := by
  unfold cutV
  have e1 : HT.sIx xs.length 0 (some 1) = 1 := by
    unfold HT.sIx
    simp only []
    split <;> omega
  have e2 : HT.sIx xs.length xs.length none = xs.length := rfl
  rw [e1, e2]
  exact List.take_of_length_le (by rw [List.length_drop]; omega)
theorem cut_init (xs : List V) (h : 1 ≤ xs.length) : cutV xs none (some (-1)) = xs.take (xs.length - 1) := by
  unfold cutV
  have e1 : HT.sIx xs.length 0 none = 0 := rfl
  rw [e1, sIx_neg h, List.drop_zero, Nat.sub_zero]
end
end K65

set_option Elab.async false
set_option linter.all false
set_option maxRecDepth 100000
set_option maxHeartbeats 4000000
namespace K65
open PySem PySem.Spec PyProof.Rows L2 StX RZ MyR SlX OwnR OwnF EnumT
section
variable {P : Program} {w : World} {K : PySem.W.Frag} {mg : Str → Option Value} {base : Heap}
/-- all that is derived on the way is let -/
structure DdOk (i j : Nat) (l : List Int) : Prop where
  len : i + j + 1 ≤ l.length
  le : l.length ≤ 100
  sx : ∀ u, u ≤ i → ∀ z ∈ it dX u l, sm z
  sy : ∀ u, u ≤ j → ∀ z ∈ it dY u (it dX i l), sm z
def spDerived : Sp := fun vs H Q _ => ∃ (a : Addr) (l : List Int) (i j : Nat), vs = [.ref a, .int i, .int j] ∧ H a = some (tp l) ∧ DdOk i j l ∧ ∀ p H', Same H H' → H' p = some (tp (dd i j l)) → Q (.ref p) H'
theorem ecut_init {l : List Int} (h : 1 ≤ l.length) : HO.tup (cutV (l.map V.int) none (some (-1))) = tp (l.take (l.length - 1)) := by
  rw [cut_init _ (by rw [List.length_map]; exact h), ← List.map_take, List.length_map]
theorem ecut_tail {l : List Int} (h : 1 ≤ l.length) : HO.tup (cutV (l.map V.int) (some 1) none) = tp (l.drop 1) := by
  rw [cut_tail _ (by rw [List.length_map]; exact h), ← List.map_drop]
theorem co_take {l : List Int} {n k : Nat} (h : k < n) : co (l.take n) k = co l k := by
  unfold co
  rw [List.getD_eq_getElem?_getD, List.getD_eq_getElem?_getD, List.getElem?_take_of_lt h]
theorem co_drop1 (l : List Int) (k : Nat) : co (l.drop 1) k = co l (k + 1) := by
  unfold co
  rw [List.getD_eq_getElem?_getD, List.getD_eq_getElem?_getD, List.getElem?_drop, Nat.add_comm]
theorem ok_derived_in (T : Facts K mg) : FnOk P w K mg base CX0 1 T.f_derived_in T.fd_derived_in ["entries", "one", "other"] spDerived := by
  refine T.F_derived_in.ok sc_derived_in (fun vs H Q E h => ?_) (fun cdv A outer s H vs Q E hr h => ?_)
  · obtain ⟨a, l, i, j, rfl, _⟩ := h
    rfl
  · obtain ⟨a, l, i, j, rfl, ha, ok, q⟩ := h
    have hlen := ok.len
    have hle := ok.le
    refine ⟨_, (PSs.nox (pss_cons (ps_set (i := 3) sc_derived_in.nd rfl (.inr rfl) (pv 0))
    (pss_cons (ps_for PassesOwn.never (by rfl) (pi_range1 (by rfl) T.z_range (pa_cons (pv 1) pa_nil)) (pg_name (i := 4) sc_derived_in.nd rfl (.inl rfl))
      (pss_one (ps_set (i := 3) sc_derived_in.nd rfl (.inr rfl) (pe_tupleOf (by rfl) T.z_tuple (pe_lc (own := [("at", 5), ("entry", 6)]) (g := (gTup K 2 (gCons (gName 5) (gCons (gName 6) gNil)))) (tt := tYes) (by rfl) sc_derived_in.nd (pi_enumT (by rfl) T.z_enumerate (pa_cons (pe_slice sl_tupA (pv 3) po_none (po_some (pe_un un_neg pe_int))) pa_nil)) (blkOk_by (N := N_derived_in) (sc := defScope s_derived_in) (by decide +kernel)) (fun _ _ _ _ _ => (pg_tup (by rfl) (pgs_cons (pg_name (i := 5) sc_derived_in.nd rfl (.inl rfl)) (pgs_cons (pg_name (i := 6) sc_derived_in.nd rfl (.inl rfl)) pgs_nil)))) (fun _ _ _ _ _ => pts_nil) (fun _ _ _ _ _ => (pe_op op_mulW (pv 6) (pe_op op_sub (pe_op op_sub (pe_callB (call_len_seq : CallR _ _ (Evl.rLenS K)) (by rfl) T.z_len (by decide +kernel) (pa_cons (pv 3) pa_nil)) pe_int) (pv 5)))))))))
    (pss_cons (ps_for PassesOwn.never (by rfl) (pi_range1 (by rfl) T.z_range (pa_cons (pv 2) pa_nil)) (pg_name (i := 4) sc_derived_in.nd rfl (.inl rfl))
      (pss_one (ps_set (i := 3) sc_derived_in.nd rfl (.inr rfl) (pe_tupleOf (by rfl) T.z_tuple (pe_lc (own := [("at", 5), ("entry", 6)]) (g := (gTup K 2 (gCons (gName 5) (gCons (gName 6) gNil)))) (tt := tYes) (by rfl) sc_derived_in.nd (pi_enumT (by rfl) T.z_enumerate (pa_cons (pe_slice sl_tupA (pv 3) (po_some pe_int) po_none) pa_nil)) (blkOk_by (N := N_derived_in) (sc := defScope s_derived_in) (by decide +kernel)) (fun _ _ _ _ _ => (pg_tup (by rfl) (pgs_cons (pg_name (i := 5) sc_derived_in.nd rfl (.inl rfl)) (pgs_cons (pg_name (i := 6) sc_derived_in.nd rfl (.inl rfl)) pgs_nil)))) (fun _ _ _ _ _ => pts_nil) (fun _ _ _ _ _ => (pe_op op_mulW (pv 6) (pe_op op_add (pv 5) pe_int))))))))
    (pss_one (ps_ret (pv 3))))))), ?_⟩
    refine ⟨_, rfl, _, rfl, i, rfl, by omega, by omega, for_range (n := (i : Int).toNat) (fun u σ H' => ∃ fa y4, σ = [some (.ref a), some (.int i), some (.int j), some (.ref fa), y4, none, none] ∧ Same H H' ∧ H' fa = some (tp (it dX u l))) ⟨a, none, rfl, Same.rf H, ha⟩ (fun u σ H1 hu hP => ?_) (fun σ H1 hP => ?_)⟩
    · obtain ⟨fa, y4, rfl, s1, hf⟩ := hP
      have lu := dX_it_len l u
      have hu2 : u < i := by omega
      generalize hm : it dX u l = m at *
      have sm1 : ∀ z ∈ m, sm z := by rw [← hm]; exact ok.sx u (by omega)
      refine ⟨_, rfl, _, rfl, _, rfl, fa, _, rfl, SqT.of hf, fun z => absurd z.2 (by rw [List.length_map, sIx_neg (by omega)]; omega), fun _ p np => ?_⟩
      rw [ecut_init (by omega)]
      refine gen_upd H1 p _ np fun H2 s2 f2 => ⟨p, _, rfl, SqT.of f2, fun D hD => lc_enumT (xs := (m.take (m.length - 1)).map V.int) (fun k H' => Same H2 H' ∧ H' D = some (.lst (tab k fun k => co m k * ((m.length : Int) - 1 - k)))) ⟨same_upd0 hD, upd_same⟩ (fun k H' _ hP => SqT.of (hP.1 _ _ f2)) (fun k x B H' hx hP hB => ?_) (fun H3 hP => ?_)⟩
      · obtain ⟨sH, hL⟩ := hP
        obtain ⟨hk, rfl⟩ := int_get hx
        rw [List.length_take] at hk
        rw [co_take (by omega)]
        refine gen_upd H' B _ hB fun H4 s4 f4 => ⟨B, _, rfl, SqT.of f4, rfl, _, _, rfl, _, _, rfl, rfl, rfl, ?_⟩
        have hfB := (s2.trans (sH.trans s4)) _ _ hf
        refine ⟨_, rfl, _, rfl, fa, _, rfl, .inr (SqT.of hfB), ?_⟩
        rw [List.length_map]
        refine ⟨_, _, rfl, rfl, _, rfl, _, _, rfl, rfl, _, _, rfl, rfl, sm_mul (sm_co sm1 (by omega)) (Nat.lt_of_le_of_lt (show ((m.length : Int) - 1 - (k : Int)).natAbs ≤ 100 by omega) (Nat.lt_of_lt_of_le (show 100 < 2 ^ 7 by decide) (Nat.pow_le_pow_right (by decide) (by decide)))), _, s4 _ _ hL, ?_, fun b o e => ?_, ?_⟩
        · rw [tab_len]
          exact small1000 (by omega)
        · rw [upd_ne (ne_of_none e hD)]
          exact s4 _ _ (sH _ _ e)
        · rw [upd_same, ← tab_snoc]
      · obtain ⟨sH, hL⟩ := hP
        rw [List.length_map, List.length_take, Nat.min_eq_left (by omega), tab_tb] at hL
        refine .inl ⟨D, _, rfl, SqL.of hL, fun p5 n5 => ⟨p5, _, rfl, (s1.trans s2).trans (sH.trans (same_upd0 n5)), ?_⟩⟩
        rw [upd_same]
        show _ = some (tp (dX (it dX u l)))
        rw [hm]
        rfl
    · obtain ⟨fa, y4, rfl, s1, hf⟩ := hP
      rw [Int.toNat_natCast] at hf
      generalize hm0 : it dX i l = l2 at *
      have lu0 : l2.length = l.length - i := by rw [← hm0, dX_it_len]
      refine ⟨_, rfl, j, rfl, by omega, by omega, for_range (n := (j : Int).toNat) (fun u σ H' => ∃ fa y4, σ = [some (.ref a), some (.int i), some (.int j), some (.ref fa), y4, none, none] ∧ Same H H' ∧ H' fa = some (tp (it dY u l2))) ⟨fa, y4, rfl, s1, hf⟩ (fun u σ H1 hu hP => ?_) (fun σ H1 hP => ?_)⟩
      · obtain ⟨fa, y4, rfl, s1, hf⟩ := hP
        have lu := dY_it_len l2 u
        have hu2 : u < j := by omega
        generalize hm : it dY u l2 = m at *
        have sm1 : ∀ z ∈ m, sm z := by rw [← hm, ← hm0]; exact ok.sy u (by omega)
        refine ⟨_, rfl, 1, rfl, fa, _, rfl, SqT.of hf, fun z => absurd z.1 (by
          rw [List.length_map]
          unfold HT.sIx
          simp only []
          split <;> omega), fun _ p np => ?_⟩
        rw [ecut_tail (by omega)]
        refine gen_upd H1 p _ np fun H2 s2 f2 => ⟨p, _, rfl, SqT.of f2, fun D hD => lc_enumT (xs := (m.drop 1).map V.int) (fun k H' => Same H2 H' ∧ H' D = some (.lst (tab k fun k => co m (k + 1) * ((k : Int) + 1)))) ⟨same_upd0 hD, upd_same⟩ (fun k H' _ hP => SqT.of (hP.1 _ _ f2)) (fun k x B H' hx hP hB => ?_) (fun H3 hP => ?_)⟩
        · obtain ⟨sH, hL⟩ := hP
          obtain ⟨hk, rfl⟩ := int_get hx
          rw [List.length_drop] at hk
          rw [co_drop1]
          refine gen_upd H' B _ hB fun H4 s4 f4 => ⟨B, _, rfl, SqT.of f4, rfl, _, _, rfl, _, _, rfl, rfl, rfl, ?_⟩
          refine ⟨_, rfl, _, rfl, _, _, rfl, rfl, _, _, rfl, rfl, sm_mul (sm_co sm1 (by omega)) (Nat.lt_of_le_of_lt (show ((k : Int) + 1).natAbs ≤ 100 by omega) (Nat.lt_of_lt_of_le (show 100 < 2 ^ 7 by decide) (Nat.pow_le_pow_right (by decide) (by decide)))), _, s4 _ _ hL, ?_, fun b o e => ?_, ?_⟩
          · rw [tab_len]
            exact small1000 (by omega)
          · rw [upd_ne (ne_of_none e hD)]
            exact s4 _ _ (sH _ _ e)
          · rw [upd_same, ← tab_snoc]
        · obtain ⟨sH, hL⟩ := hP
          rw [List.length_map, List.length_drop, tab_tb] at hL
          refine .inl ⟨D, _, rfl, SqL.of hL, fun p5 n5 => ⟨p5, _, rfl, (s1.trans s2).trans (sH.trans (same_upd0 n5)), ?_⟩⟩
          rw [upd_same]
          show _ = some (tp (dY (it dY u l2)))
          rw [hm]
          rfl
      · obtain ⟨fa, y4, rfl, s1, hf⟩ := hP
        rw [Int.toNat_natCast] at hf
        refine ⟨_, rfl, q fa H1 s1 ?_⟩
        unfold dd
        rw [hm0]
        exact hf
theorem Pr2.rw {X : List Int} (h : Pr2 X) : Rw X := ⟨fun z => (by have := h.len; rw [z] at this; cases this), (by rw [h.len]; decide), fun x hx => Nat.lt_trans (h.sho x hx) (by decide)⟩
end
end K65

set_option Elab.async false
set_option linter.all false
set_option maxRecDepth 100000
set_option maxHeartbeats 4000000
namespace K65
open PySem PySem.Spec PyProof.Rows L2 StX RZ MyR SlX OwnR OwnF EnumT
theorem sN_le_mul {f g : Nat → Int} {c : Nat} : ∀ n, (∀ k, k < n → (f k).natAbs ≤ c * (g k).natAbs) → sN n f ≤ c * sN n g
  | 0, _ => Nat.zero_le _
  | n + 1, h => by
    show sN n f + (f n).natAbs ≤ c * (sN n g + (g n).natAbs)
    have h1 := sN_le_mul n fun k hk => h k (by omega)
    have h2 := h n (by omega)
    rw [Nat.mul_add]
    omega
theorem nm_drop1 (l : List Int) : nm (l.drop 1) ≤ nm l := by
  cases l with
  | nil => exact Nat.le_refl _
  | cons x xs => exact Nat.le_add_left _ _
theorem nm_dX (l : List Int) : nm (dX l) ≤ l.length * nm l := by
  unfold dX
  rw [nm_tb]
  refine Nat.le_trans (sN_le_mul (g := co l) (c := l.length) _ fun k hk => ?_) (Nat.mul_le_mul (Nat.le_refl _) (sN_co l _))
  rw [Int.natAbs_mul, Nat.mul_comm]
  exact Nat.mul_le_mul (by omega) (Nat.le_refl _)
theorem nm_dY (l : List Int) : nm (dY l) ≤ l.length * nm l := by
  unfold dY
  rw [nm_tb]
  refine Nat.le_trans (sN_le_mul (g := co (l.drop 1)) (c := l.length) _ fun k hk => ?_) (Nat.mul_le_mul (Nat.le_refl _) (Nat.le_trans (sN_co (l.drop 1) _) (nm_drop1 l)))
  rw [Int.natAbs_mul, Nat.mul_comm, co_drop1]
  exact Nat.mul_le_mul (by omega) (Nat.le_refl _)
theorem nm_dX_it (l : List Int) : ∀ u, nm (it dX u l) ≤ l.length ^ u * nm l
  | 0 => by rw [Nat.pow_zero, Nat.one_mul]; exact Nat.le_refl _
  | u + 1 => by
    have h1 := nm_dX (it dX u l)
    have h2 := nm_dX_it l u
    rw [dX_it_len] at h1
    show nm (dX (it dX u l)) ≤ _
    rw [Nat.pow_succ, Nat.mul_comm (l.length ^ u), Nat.mul_assoc]
    exact Nat.le_trans h1 (Nat.mul_le_mul (by omega) h2)
theorem nm_dY_it (l : List Int) : ∀ u, nm (it dY u l) ≤ l.length ^ u * nm l
  | 0 => by rw [Nat.pow_zero, Nat.one_mul]; exact Nat.le_refl _
  | u + 1 => by
    have h1 := nm_dY (it dY u l)
    have h2 := nm_dY_it l u
    rw [dY_it_len] at h1
    show nm (dY (it dY u l)) ≤ _
    rw [Nat.pow_succ, Nat.mul_comm (l.length ^ u), Nat.mul_assoc]
    exact Nat.le_trans h1 (Nat.mul_le_mul (by omega) h2)
theorem nm_dd (i j : Nat) (l : List Int) (h : 1 ≤ l.length) : nm (dd i j l) ≤ l.length ^ (i + j) * nm l := by
  unfold dd
  refine Nat.le_trans (nm_dY_it (it dX i l) j) ?_
  rw [dX_it_len]
  refine Nat.le_trans (Nat.mul_le_mul (Nat.pow_le_pow_left (show l.length - i ≤ l.length by omega) j) (nm_dX_it l i)) (Nat.le_of_eq ?_)
  rw [Nat.pow_add, ← Nat.mul_assoc, Nat.mul_comm (l.length ^ j)]
theorem ddOk_of {i j : Nat} {l : List Int} (h : i + j + 1 ≤ l.length) (hl : l.length ≤ 100) (hB : l.length ^ (i + j) * nm l < 2 ^ 4000) : DdOk i j l := by
  have pl : 0 < l.length := by omega
  refine ⟨h, hl, fun u hu z hz => ?_, fun u hu z hz => ?_⟩
  · refine Nat.lt_of_le_of_lt (Nat.le_trans (nm_mem hz) (Nat.le_trans (nm_dX_it l u) ?_)) hB
    exact Nat.mul_le_mul (Nat.pow_le_pow_right pl (by omega)) (Nat.le_refl _)
  · refine Nat.lt_of_le_of_lt (Nat.le_trans (nm_mem hz) (Nat.le_trans (nm_dd i u l pl) ?_)) hB
    exact Nat.mul_le_mul (Nat.pow_le_pow_right pl (by omega)) (Nat.le_refl _)
end K65

set_option Elab.async false
set_option linter.all false
set_option maxRecDepth 100000
set_option maxHeartbeats 4000000
namespace K65
open PySem PySem.Spec PyProof.Rows L2 StX RZ MyR SlX OwnR OwnF EnumT
section
variable {P : Program} {w : World} {K : PySem.W.Frag} {mg : Str → Option Value} {base : Heap}
/-- all that the law makes on its way is let -/
structure LchOk (X Y l : List Int) : Prop where
  ne : l ≠ []
  len : l.length ≤ 90
  lX : X.length = 2
  lY : Y.length = 2
  pX : ∀ i, i ≤ l.length → Rw (pow X i)
  pY : ∀ i, i ≤ l.length → Rw (pow Y i)
  pm : ∀ i, i < l.length → Rw (ml (pow X (l.length - 1 - i)) (pow Y i))
  sl : ∀ z ∈ l, sm z
end
end K65

set_option Elab.async false
set_option linter.all false
set_option maxRecDepth 100000
set_option maxHeartbeats 4000000
namespace K65
open PySem PySem.Spec PyProof.Rows L2 StX RZ MyR SlX OwnR OwnF EnumT
section
variable {P : Program} {w : World} {K : PySem.W.Frag} {mg : Str → Option Value} {base : Heap}
end
end K65

set_option Elab.async false
set_option linter.all false
set_option maxRecDepth 100000
/-! layings: the plain law -/
namespace K65
/-! ### the laying -/
def L : Nat → List Int → List Int → List Int
  | 0, f, g => ml f g
  | t + 1, f, g => zs (-1) (L t (dX f) (dY g)) (L t (dY f) (dX g))
/-- how many lots -/
def ch : Nat → Nat → Nat
  | _, 0 => 1
  | 0, _ + 1 => 0
  | n + 1, k + 1 => ch n k + ch n (k + 1)
theorem ch_zero (n : Nat) : ch n 0 = 1 := by cases n <;> rfl
theorem ch_mul : ∀ n k : Nat, (ch n (k + 1) : Int) * ((k : Int) + 1) = ch n k * ((n : Int) - k)
  | 0, k => by
    show ((0 : Nat) : Int) * _ = _
    cases k with
    | zero => show (0 : Int) * _ = 1 * ((0 : Int) - 0); grind
    | succ k => show (0 : Int) * _ = (0 : Int) * _; grind
  | n + 1, 0 => by
    have h := ch_mul n 0
    rw [ch_zero] at h
    show ((ch n 0 + ch n (0 + 1) : Nat) : Int) * _ = ((ch (n + 1) 0 : Nat) : Int) * _
    rw [ch_zero, ch_zero, Int.natCast_add]
    have e : ((0 : Nat) : Int) = 0 := rfl
    rw [e] at h ⊢
    rw [show ((n + 1 : Nat) : Int) = (n : Int) + 1 by omega]
    grind
  | n + 1, k + 1 => by
    have h1 := ch_mul n (k + 1)
    have h2 := ch_mul n k
    show ((ch n (k + 1) + ch n (k + 1 + 1) : Nat) : Int) * _ = ((ch n k + ch n (k + 1) : Nat) : Int) * _
    rw [Int.natCast_add (ch n (k + 1)), Int.natCast_add (ch n k)]
    rw [show ((k + 1 : Nat) : Int) = (k : Int) + 1 by omega] at h1 ⊢
    rw [show ((n + 1 : Nat) : Int) = (n : Int) + 1 by omega]
    grind
end K65

set_option Elab.async false
set_option linter.all false
set_option maxRecDepth 100000
set_option maxHeartbeats 4000000
namespace K65
open PySem PySem.Spec PyProof.Rows L2 StX RZ MyR SlX OwnR OwnF EnumT GxR
theorem st_norm {S : TS} {D : Ends} {σ : L2.St} (σ' : L2.St) {H : Hp} (e : σ = σ') (h : S D σ' H) : S D σ H := e ▸ h
theorem gen_app (H : Hp) (F : Addr) (o : HO) {R : Hp → Prop} (h : ∀ H' : Hp, H' F = some o → (∀ b, b ≠ F → H' b = H b) → R H') : R (upd H F o) := h _ upd_same fun _ hb => upd_ne hb
/-! ### the first entry other than 0 -/
def nzr (l : List Int) : Bool := l.any (· != 0)
def fi (l : List Int) : Nat := l.findIdx (· != 0)
theorem fi_lt {l : List Int} (h : nzr l = true) : fi l < l.length := by
  unfold fi
  refine List.findIdx_lt_length_of_exists ?_
  obtain ⟨x, h1, h2⟩ := List.any_eq_true.mp h
  exact ⟨x, h1, h2⟩
theorem fi_ne {l : List Int} (h : nzr l = true) : co l (fi l) ≠ 0 := by
  have := List.findIdx_getElem (p := (· != 0)) (w := fi_lt h)
  rw [co_get (fi_lt h)]
  have h2 : (l[fi l]'(fi_lt h) != 0) = true := this
  simpa using h2
theorem fi_first {l : List Int} {i : Nat} {z : Int} (h1 : l[i]? = some z) (h2 : (z != 0) = true) (h3 : ∀ (j : Nat) (y : Int), j < i → l[j]? = some y → (y != 0) = false) : fi l = i := by
  obtain ⟨hi, e⟩ := List.getElem?_eq_some_iff.mp h1
  unfold fi
  refine (List.findIdx_eq hi).mpr ⟨by rw [e]; exact h2, fun j hj => ?_⟩
  exact h3 j _ hj (List.getElem?_eq_getElem (by omega))
theorem nzr_of {l : List Int} {i : Nat} {z : Int} (h1 : l[i]? = some z) (h2 : (z != 0) = true) : nzr l = true := List.any_eq_true.mpr ⟨z, List.mem_of_getElem? h1, h2⟩
theorem nzr_no {l : List Int} (h : ∀ (j : Nat) (z : Int), l[j]? = some z → (z != 0) = false) : nzr l = false := by
  cases e : nzr l with
  | false => rfl
  | true =>
    obtain ⟨x, h1, h2⟩ := List.any_eq_true.mp e
    obtain ⟨j, hj, ej⟩ := List.getElem_of_mem h1
    rw [h j x (by rw [← ej]; exact List.getElem?_eq_getElem hj)] at h2
    cases h2
theorem nzr_co {l : List Int} (h : nzr l = false) (k : Nat) : co l k = 0 := by
  by_cases hk : k < l.length
  · have := List.any_eq_false.mp h l[k] (List.getElem_mem hk)
    rw [co_get hk]
    simpa using this
  · exact co_far (by omega)
theorem nzr_iff {l : List Int} : nzr l = true ↔ ∃ k, k < l.length ∧ co l k ≠ 0 := by
  constructor
  · intro h
    exact ⟨fi l, fi_lt h, fi_ne h⟩
  · rintro ⟨k, hk, hz⟩
    cases e : nzr l with
    | true => rfl
    | false => exact absurd (nzr_co e k) hz
theorem cont_nzr (l : List Int) : cont l = 0 ↔ nzr l = false := by
  have h := any_cont l
  unfold nzr
  constructor
  · intro e
    rw [decide_eq_true e] at h
    simpa using h
  · intro e
    rw [e] at h
    exact of_decide_eq_true h.symm
theorem sm_of_le {x y : Int} (h : sm y) (k : x.natAbs ≤ y.natAbs) : sm x := Nat.lt_of_le_of_lt k h
/-! ### tables of code objects -/
def Tg (Ps : List Addr) (H : Hp) : Prop := ∀ P ∈ Ps, TabG H P
def Sts (Ps : List Addr) (H H' : Hp) : Prop := ∀ b o, b ∉ Ps → H b = some o → H' b = some o
/-- all but the dice at d and the tables Ps stays -/
def Sy (d : Addr) (Ps : List Addr) (H H' : Hp) : Prop := ∀ b o, b ≠ d → b ∉ Ps → H b = some o → H' b = some o
theorem Sts.rf (Ps : List Addr) (H : Hp) : Sts Ps H H := fun _ _ _ e => e
theorem Sts.of {Ps : List Addr} {H H' : Hp} (s : Same H H') : Sts Ps H H' := fun b o _ h => s b o h
theorem Sts.trans {Ps : List Addr} {H H1 H2 : Hp} (s : Sts Ps H H1) (t : Sts Ps H1 H2) : Sts Ps H H2 := fun b o n h => t b o n (s b o n h)
theorem Sy.rf (d : Addr) (Ps : List Addr) (H : Hp) : Sy d Ps H H := fun _ _ _ _ e => e
theorem Sy.of {d : Addr} {Ps : List Addr} {H H' : Hp} (s : Same H H') : Sy d Ps H H' := fun b o _ _ h => s b o h
theorem Sy.ofD {d : Addr} {Ps : List Addr} {H H' : Hp} (s : Sx d H H') : Sy d Ps H H' := fun b o n _ h => s b o n h
theorem Sy.ofP {d : Addr} {Ps : List Addr} {H H' : Hp} (s : Sts Ps H H') : Sy d Ps H H' := fun b o _ n h => s b o n h
theorem Sy.trans {d : Addr} {Ps : List Addr} {H H1 H2 : Hp} (s : Sy d Ps H H1) (t : Sy d Ps H1 H2) : Sy d Ps H H2 := fun b o n m h => t b o n m (s b o n m h)
theorem tabS {P : Addr} {H H' : Hp} (t : TabG H P) (s : Same H H') : TabG H' P := by
  obtain ⟨ps, h, k⟩ := t
  exact ⟨ps, s _ _ h, k⟩
theorem Tg.same {Ps : List Addr} {H H' : Hp} (t : Tg Ps H) (s : Same H H') : Tg Ps H' := fun P m => tabS (t P m) s
theorem Tg.sx {Ps : List Addr} {d : Addr} {H H' : Hp} (t : Tg Ps H) (s : Sx d H H') (hd : Dc H d) : Tg Ps H' := fun P m => by
  obtain ⟨ps, h, k⟩ := t P m
  obtain ⟨x, y, z, e⟩ := hd
  refine ⟨ps, s _ _ (fun q => ?_) h, k⟩
  rw [q, e] at h
  cases h
theorem Tg.ne {Ps : List Addr} {H : Hp} {a : Addr} {o : HO} (t : Tg Ps H) (h : H a = some o) (ho : ∀ ps, o ≠ .tbl ps) : a ∉ Ps := fun m => by
  obtain ⟨ps, e, _⟩ := t a m
  rw [h] at e
  exact ho ps (Option.some.inj e)
theorem Tg.sts {Ps : List Addr} {H H1 H' : Hp} (t : Tg Ps H1) (s : Sts Ps H H1) (s2 : Same H1 H') : Tg Ps H' := t.same s2
theorem tbd_sts {Ps : List Addr} {P : Addr} {H H' : Hp} (t : Tabbed P H H') (h : P ∈ Ps) : Sts Ps H H' := fun b o nb e => (t.2 b (fun z => nb (z ▸ h))).trans e
theorem tbd_tg {Ps : List Addr} {P : Addr} {H H' : Hp} (t : Tabbed P H H') (g : Tg Ps H) : Tg Ps H' := fun P' m => by
  by_cases e : P' = P
  · rw [e]
    exact t.1
  · obtain ⟨ps, h, k⟩ := g P' m
    exact ⟨ps, (t.2 P' e).trans h, k⟩
theorem Sts.tup {Ps : List Addr} {H H' : Hp} {t : Addr} {xs : List V} (s : Sts Ps H H') (g : Tg Ps H) (h : H t = some (.tup xs)) : H' t = some (.tup xs) := s _ _ (g.ne h fun _ e => by cases e) h
theorem Sts.lst {Ps : List Addr} {H H' : Hp} {t : Addr} {xs : List V} (s : Sts Ps H H') (g : Tg Ps H) (h : H t = some (.lst xs)) : H' t = some (.lst xs) := s _ _ (g.ne h fun _ e => by cases e) h
theorem Sts.fo {Ps : List Addr} {C a : Addr} {H H' : Hp} {l : List Int} (s : Sts Ps H H') (g : Tg Ps H) (h : Fo C H a l) : Fo C H' a l := by
  obtain ⟨dx, t, e1, e2, e3⟩ := h
  exact ⟨dx, t, s _ _ (g.ne e1 fun _ e => by cases e) e1, s _ _ (g.ne e2 fun _ e => by cases e) e2, s _ _ (g.ne e3 fun _ e => by cases e) e3⟩
theorem Sts.dc {Ps : List Addr} {d : Addr} {H H' : Hp} (s : Sts Ps H H') (g : Tg Ps H) (h : Dc H d) : Dc H' d := by
  obtain ⟨x, y, z, e⟩ := h
  exact ⟨x, y, z, s _ _ (g.ne e fun _ e => by cases e) e⟩
/-- dice and the tables -/
structure Dp (d : Addr) (Ps : List Addr) (H : Hp) : Prop where
  dd : Dc H d
  tt : Tg Ps H
theorem Dp.same {d : Addr} {Ps : List Addr} {H H' : Hp} (D : Dp d Ps H) (s : Same H H') : Dp d Ps H' := ⟨D.dd.same s, D.tt.same s⟩
theorem Dp.sx {d : Addr} {Ps : List Addr} {H H' : Hp} (D : Dp d Ps H) (s : Sx d H H') (h : Dc H' d) : Dp d Ps H' := ⟨h, D.tt.sx s D.dd⟩
theorem Dp.sp {d : Addr} {Ps : List Addr} {H H' : Hp} (D : Dp d Ps H) (s : Sts Ps H H') (h : Tg Ps H') : Dp d Ps H' := ⟨s.dc D.tt D.dd, h⟩
theorem Dp.tup {d : Addr} {Ps : List Addr} {H H' : Hp} {t : Addr} {xs : List V} (D : Dp d Ps H) (s : Sy d Ps H H') (h : H t = some (.tup xs)) : H' t = some (.tup xs) := s _ _ (dc_ne D.dd h) (D.tt.ne h fun _ e => by cases e) h
theorem Dp.fo {d : Addr} {Ps : List Addr} {H H' : Hp} {C a : Addr} {l : List Int} (D : Dp d Ps H) (s : Sy d Ps H H') (h : Fo C H a l) : Fo C H' a l := by
  obtain ⟨dx, t, e1, e2, e3⟩ := h
  obtain ⟨x, y, z, e⟩ := D.dd
  have nd : ∀ {b o}, H b = some o → (∀ l, o ≠ .lst l) → b ≠ d := fun h1 h2 q => by
    rw [q, e] at h1
    exact h2 _ (Option.some.inj h1).symm
  exact ⟨dx, t, s _ _ (nd e1 fun _ e => by cases e) (D.tt.ne e1 fun _ e => by cases e) e1, s _ _ (nd e2 fun _ e => by cases e) (D.tt.ne e2 fun _ e => by cases e) e2, s _ _ (nd e3 fun _ e => by cases e) (D.tt.ne e3 fun _ e => by cases e) e3⟩
theorem script_Sy {K : PySem.W.Frag} {d a : Addr} {Ps : List Addr} {H H' : Hp} {o : HO} {xs : List V} (s : Sy d Ps (upd H d o) H') (n : H d = none) (t : Tg Ps H) (h : SqL K H a xs) : SqL K H' a xs := by
  rcases h with (h | ⟨u, h⟩) | h
  · have ne : a ≠ d := ne_of_none h n
    exact .inl (.inl (s a _ ne (t.ne h fun _ e => by cases e) (by rw [upd_ne ne]; exact h)))
  · have ne : a ≠ d := ne_of_none h n
    exact .inl (.inr ⟨u, s a _ ne (t.ne h fun _ e => by cases e) (by rw [upd_ne ne]; exact h)⟩)
  · exact .inr h
def spLawT (K : PySem.W.Frag) (Ps : List Addr) : Sp := fun vs H Q _ => ∃ (a : Addr) (ns : List Int), vs = [.ref a] ∧ SqL K H a (ns.map V.int) ∧ ns.length ≤ 63 ∧ Tg Ps H ∧ ∀ H', Q (.bl true) H'
/-! ### cut and joined rows -/
theorem cat_rows {K : PySem.W.Frag} {a b : Addr} {H : Hp} {xs ys : List Int} {Q : VK} (ha : H a = some (tp xs)) (hb : H b = some (tp ys)) (hl : xs.length + ys.length ≤ 1000) (q : ∀ p H', Same H H' → H' p = some (tp (xs ++ ys)) → Q (.ref p) H') : rCatA K (.ref a) (.ref b) H Q := by
  refine ⟨a, b, _, _, rfl, rfl, SqT.of ha, SqT.of hb, ?_, fun e => ?_, fun _ e => ?_, fun _ _ p hp => ?_⟩
  · rw [List.length_map, List.length_map]
    have : 1000 ≤ sizeLine := by decide
    omega
  · have e := List.map_eq_nil_iff.mp e
    subst e
    exact q b H (Same.rf _) hb
  · have e := List.map_eq_nil_iff.mp e
    subst e
    exact q a H (Same.rf _) (by rw [List.append_nil]; exact ha)
  · refine q p _ (same_upd0 hp) ?_
    rw [upd_same]
    exact congrArg (fun z => some (HO.tup z)) List.map_append.symm
theorem cutV_map (xs : List Int) (lo hi : Option Int) : cutV (xs.map V.int) lo hi = ((xs.drop (HT.sIx xs.length 0 lo)).take (HT.sIx xs.length xs.length hi - HT.sIx xs.length 0 lo)).map V.int := by
  unfold cutV
  rw [List.length_map, List.map_take, List.map_drop]
theorem cut_row {K : PySem.W.Frag} {a : Addr} {H : Hp} {xs : List Int} {lo hi : Option Int} {Q : VK} (ha : H a = some (tp xs)) (q : ∀ p H', Same H H' → H' p = some (tp ((xs.drop (HT.sIx xs.length 0 lo)).take (HT.sIx xs.length xs.length hi - HT.sIx xs.length 0 lo))) → Q (.ref p) H') : rSlA K (.ref a) lo hi H Q := by
  refine ⟨a, _, rfl, SqT.of ha, fun e => ?_, fun _ p hp => ?_⟩
  · rw [List.length_map] at e
    refine q a H (Same.rf _) ?_
    rw [e.1, e.2, List.drop_zero, Nat.sub_zero, List.take_length]
    exact ha
  · refine q p _ (same_upd0 hp) ?_
    rw [upd_same, cutV_map]
theorem take_row {K : PySem.W.Frag} {a : Addr} {H : Hp} {xs : List Int} {i : Nat} {z : Int} {Q : VK} (ha : H a = some (tp xs)) (hi : i ≤ xs.length) (hz : z = (i : Int)) (q : ∀ p H', Same H H' → H' p = some (tp (xs.take i)) → Q (.ref p) H') : rSlA K (.ref a) none (some z) H Q := by
  subst hz
  refine cut_row ha fun p H' s k => q p H' s ?_
  rw [HT.sIx_none, HT.sIx_nat, Nat.sub_zero, List.drop_zero, Nat.min_eq_left hi] at k
  exact k
end K65

set_option Elab.async false
set_option linter.all false
set_option maxRecDepth 100000
set_option maxHeartbeats 4000000
set_option exponentiation.threshold 10000
namespace K65
open PySem PySem.Spec PyProof.Rows L2 StX RZ MyR SlX OwnR OwnF EnumT GxR GenNx FDivQ
def gl (l : List Int) : Nat := l.foldl (fun a x => Nat.gcd a x.natAbs) 0
theorem gl_snoc (l : List Int) (x : Int) : gl (l ++ [x]) = Nat.gcd (gl l) x.natAbs := by
  unfold gl
  rw [List.foldl_append]
  rfl
def foE (l : List Int) : Int := (l.find? (· != 0)).getD 0
theorem foE_of {l : List Int} {r : Int} (h : FirstOf (fun i => i != 0) l 0 r) : r = foE l := by
  unfold foE
  rcases h with ⟨h, rfl⟩ | ⟨i, h1, h2, h3⟩
  · have e : l.find? (· != 0) = none := List.find?_eq_none.mpr fun x hx => by
      obtain ⟨j, hj, e⟩ := List.mem_iff_getElem.mp hx
      have q : (x != 0) = false := h j x (by rw [List.getElem?_eq_getElem hj, e])
      rw [q]
      exact Bool.false_ne_true
    rw [e]
    rfl
  · obtain ⟨hi, e⟩ := List.getElem?_eq_some_iff.mp h1
    have e2 : l.find? (· != 0) = some r := List.find?_eq_some_iff_getElem.mpr ⟨h2, i, hi, e, fun j hj => by
      have q : (l[j] != 0) = false := h3 j _ hj (List.getElem?_eq_getElem (Nat.lt_trans hj hi))
      rw [q]
      rfl⟩
    rw [e2]
    rfl
abbrev ls (ns : List Int) : HO := .lst (ns.map V.int)
section
variable {P : Program} {w : World} {K : PySem.W.Frag} {mg : Str → Option Value} {base : Heap} {Ps : List Addr}
def spSharedL (K : PySem.W.Frag) : Sp := fun vs H Q _ => ∃ (t : Addr) (ns : List Int), vs = [.ref t] ∧ SqL K H t (ns.map V.int) ∧ Q (.int (gl ns : Nat)) H
theorem ok_shared_of (T : Facts K mg) : FnOk P w K mg base CX0 1 T.f_shared_of T.fd_shared_of ["numbers"] (spSharedL K) := by
  refine T.F_shared_of.ok sc_shared_of (fun vs H Q E h => ?_) (fun cdv A outer s H vs Q E hr h => ?_)
  · obtain ⟨t, ns, rfl, _⟩ := h
    rfl
  · obtain ⟨t, ns, rfl, ht, q⟩ := h
    refine ⟨_, (PSs.nox (pss_cons (ps_set (i := 1) sc_shared_of.nd rfl (.inl rfl) pe_int)
    (pss_cons (ps_for PassesOwn.never (by rfl) (pi_list (pv 0)) (pg_name (i := 2) sc_shared_of.nd rfl (.inl rfl))
      (pss_one (ps_set (i := 1) sc_shared_of.nd rfl (.inl rfl) (pe_callBfun cr_gcd (by rfl) T.m_gcd (pa_cons (pv 1) (pa_cons (pv 2) pa_nil))))))
    (pss_one (ps_ret (pv 1)))))), ?_⟩
    refine ⟨_, rfl, t, rfl, ⟨_, ht⟩, for_list (xs := ns.map V.int) (fun i σ H' => ∃ y, σ = [some (.ref t), some (.int ((gl (ns.take i) : Nat) : Int)), y] ∧ H' = H) ⟨none, rfl, rfl⟩ (fun i σ H' _ hP => by rw [hP.choose_spec.2]; exact ht) (fun i x σ H' hx hP => ?_) (fun σ H' hP => ?_)⟩
    · obtain ⟨y, rfl, rfl⟩ := hP
      obtain ⟨hi, rfl⟩ := int_get hx
      refine ⟨_, rfl, _, rfl, _, _, rfl, some (.int (co ns i)), ?_, rfl⟩
      rw [take_snoc hi, gl_snoc]
      rfl
    · obtain ⟨y, rfl, rfl⟩ := hP
      rw [List.length_map, List.take_length]
      exact ⟨_, rfl, q⟩
def spSharedS (K : PySem.W.Frag) : Sp := fun vs H Q _ => ∃ (t : Addr) (ns : List Int), vs = [.ref t] ∧ (SqT K H t (ns.map V.int) ∨ SqL K H t (ns.map V.int)) ∧ Q (.int (gl ns : Nat)) H
def spFirstOf (K : PySem.W.Frag) (Ps : List Addr) : Sp := fun vs H Q _ => ∃ (t : Addr) (l : List Int), vs = [.ref t] ∧ SqL K H t (l.map V.int) ∧ Tg Ps H ∧ ∀ H', Sts Ps H H' → Tg Ps H' → Q (.int (foE l)) H'
theorem ok_first_of (T : Facts K mg) (TB_first_of : TabB base mg T.c_first_of T.P_first_of) (hP : T.P_first_of ∈ Ps) : FnOk P w K mg base CX0 1 T.f_first_of T.fd_first_of ["numbers"] (spFirstOf K Ps) := by
  refine HookT.okC T.F_first_of sc_first_of (fun vs H Q E h => ?_) (fun A outer s H vs Q E hr h => ?_)
  · obtain ⟨t, l, rfl, _⟩ := h
    rfl
  · obtain ⟨t, l, rfl, ht, hG, q⟩ := h
    refine ⟨_, (PSs.nox (pss_one (ps_ret (GenNl.pe_nextL hr (by rfl) T.z_next TB_first_of T.code_first_of (GenNx.genS_of rfl rfl (by decide +kernel) rfl rfl) (pv 0) (GenNx.test_ne0 rfl rfl))))), ?_⟩
    refine ⟨_, rfl, t, l, rfl, ht, hG _ hP, fun r H2 hr2 hT => ?_⟩
    have q2 := q H2 (tbd_sts hT hP) (tbd_tg hT hG)
    rw [← foE_of hr2] at q2
    exact q2
end
theorem lc_zipL {K : PySem.W.Frag} {a b : Addr} {xs ys : List V} {g : TG} {tt : TT} {te : TE} {vs : List Nat} {σ : L2.St} {H1 : Hp} {D : Addr} {Qd : Hp → Prop} (hl : xs.length = ys.length) (Pv : Nat → Hp → Prop) (h0 : Pv 0 (upd H1 D (.lst []))) (hq : ∀ i H, i ≤ xs.length → Pv i H → SqL K H a xs ∧ SqL K H b ys)
    (hs : ∀ (i : Nat) (x y : V) (T : Addr) (H : Hp), xs[i]? = some x → ys[i]? = some y → Pv i H → H T = none → g (.ref T) (wipe σ vs) (upd H T (.tup [x, y])) fun σ2 H2 => wipe σ2 vs = wipe σ vs ∧ tt σ2 H2 fun b H3 =>
      if b = true then te σ2 H3 fun y H4 => ∃ acc, H4 D = some (.lst acc) ∧ acc.length < sizeLine ∧ Pv (i + 1) (upd H4 D (.lst (acc ++ [y]))) else Pv (i + 1) H3) (hd : ∀ H, Pv xs.length H → Qd H) :
    ∃ W : Nat → Nat → Hp → Prop, (∃ m, W 0 m (upd H1 D (.lst []))) ∧ ∀ i m H, W i m H →
      ((Itz K a b).stop i H ∧ Qd H) ∨ ((Itz K a b).go i H ∧ ∃ Nx : Hp → Prop, (∀ H', Nx H' → ∃ m', m' < m ∧ W (i + 1) m' H') ∧ ∀ x H', (Itz K a b).yld i H x H' → g x (wipe σ vs) H' fun σ2 H2 => wipe σ2 vs = wipe σ vs ∧ tt σ2 H2 fun b H3 =>
        if b = true then te σ2 H3 fun y H4 => ∃ acc, H4 D = some (.lst acc) ∧ acc.length < sizeLine ∧ Nx (upd H4 D (.lst (acc ++ [y]))) else Nx H3) := by
  refine ⟨fun i m H => m = xs.length - i ∧ i ≤ xs.length ∧ Pv i H, ⟨xs.length, by simp, Nat.zero_le _, h0⟩, ?_⟩
  rintro i m H ⟨rfl, hi, p⟩
  obtain ⟨qx, qy⟩ := hq i H hi p
  by_cases hlt : i < xs.length
  · have hlt2 : i < ys.length := by omega
    have hx : xs[i]? = some xs[i] := List.getElem?_eq_getElem hlt
    have hy : ys[i]? = some ys[i] := List.getElem?_eq_getElem hlt2
    refine .inr ⟨⟨xs, ys, _, _, qx, qy, hx, hy⟩, Pv (i + 1), fun H' p' => ⟨xs.length - (i + 1), by omega, rfl, hlt, p'⟩, fun v H' y => ?_⟩
    obtain ⟨T, x', y', rfl, hT, rfl, f1, f2⟩ := y
    exact hs i x' y' T H (f1 xs qx) (f2 ys qy) p hT
  · have e : i = xs.length := by omega
    subst e
    exact .inl ⟨⟨xs, ys, qx, qy, Or.inl (Nat.le_refl _)⟩, hd H p⟩
def dv (l : List Int) (c : Int) : List Int := l.map fun x => x.fdiv c
theorem dv_tb (l : List Int) (c : Int) : (tb l.length fun k => (co l k).fdiv c) = dv l c := tb_map (fun x => x.fdiv c) l
def primE (l : List Int) : List Int := if gl l = 0 then l else dv l (if 0 < foE l then (gl l : Int) else -(gl l : Int))
def DivOk (l : List Int) : Prop := gl l ≠ 0 → ∀ x ∈ l, CDivQ x (gl l)
theorem cdivQ_neg {i j : Int} (h : CDivQ i j) : CDivQ i (-j) := ⟨fun e => h.1 (by omega), by rw [Int.natAbs_neg]; exact h.2⟩
theorem co_memE {l : List Int} {k : Nat} (h : k < l.length) : co l k ∈ l := by
  rw [co_get h]
  exact List.getElem_mem h
section
variable {P : Program} {w : World} {K : PySem.W.Frag} {mg : Str → Option Value} {base : Heap} {Ps : List Addr}
def spPrimL (Ps : List Addr) : Sp := fun vs H Q _ => ∃ (t : Addr) (l : List Int), vs = [.ref t] ∧ H t = some (ls l) ∧ l.length ≤ 100 ∧ DivOk l ∧ Tg Ps H ∧ ∀ p H', Sts Ps H H' → Tg Ps H' → H' p = some (ls (primE l)) → Q (.ref p) H'
theorem ok_primitive_of (T : Facts K mg) (TB_first_of : TabB base mg T.c_first_of T.P_first_of) (hP : T.P_first_of ∈ Ps) : FnOk P w K mg base CX0 2 T.f_primitive_of T.fd_primitive_of ["numbers"] (spPrimL Ps) := by
  have G_shared_of : FnOk P w K mg base CX0 1 T.f_shared_of T.fd_shared_of ["numbers"] (spSharedL K) := ok_shared_of T
  have G_first_of := ok_first_of (P := P) (w := w) (base := base) T TB_first_of hP
  refine T.F_primitive_of.ok sc_primitive_of (fun vs H Q E h => ?_) (fun cdv A outer s H vs Q E hr h => ?_)
  · obtain ⟨t, l, rfl, _⟩ := h
    rfl
  · obtain ⟨t, l, rfl, ht, hl, hdo, hG, q⟩ := h
    refine ⟨_, (PSs.nox (pss_cons (ps_set (i := 1) sc_primitive_of.nd rfl (.inr rfl) (pe_call G_shared_of hr (by rfl) T.g_shared_of T.F_shared_of.kp T.b_shared_of .nil pass0 (pa_cons (pv 0) pa_nil)))
    (pss_cons (ps_if (pt_cmpR op_eq (pv 1) pe_int (nomark _))
      (pss_one (ps_ret (pe_callTy call_list_of (by rfl) T.z_list (by decide +kernel) (pa_cons (pv 0) pa_nil))))
      pss_nil)
    (pss_cons (ps_set (i := 1) sc_primitive_of.nd rfl (.inr rfl) (pe_ifExp (pt_cmpR op_gt (pe_call G_first_of hr (by rfl) T.g_first_of T.F_first_of.kp T.b_first_of .nil pass0 (pa_cons (pv 0) pa_nil)) pe_int (nomark _)) (pv 1) (pe_un un_neg (pv 1))))
    (pss_one (ps_ret (pe_lc (own := [("number", 2)]) (g := (gName 2)) (tt := tYes) (by rfl) sc_primitive_of.nd (pi_list (pv 0)) (blkOk_by (N := N_primitive_of) (sc := defScope s_primitive_of) (by decide +kernel)) (fun _ _ _ _ _ => (pg_name (i := 2) sc_primitive_of.nd rfl (.inl rfl))) (fun _ _ _ _ _ => pts_nil) (fun _ _ _ _ _ => (pe_op FDivQ.op_fdivQ (pv 2) (pv 1)))))))))), ?_⟩
    refine ⟨_, rfl, t, l, rfl, SqL.of ht, _, rfl, rfl, _, rfl, ?_⟩
    by_cases c : gl l = 0
    · rw [decide_eq_true (show V.int ((gl l : Nat) : Int) = V.int 0 by rw [c]; rfl)]
      refine iteT ⟨_, rfl, t, l.map V.int, rfl, .inl (SqL.of ht), fun p hp => q p _ (Sts.of (same_upd0 hp)) (hG.same (same_upd0 hp)) ?_⟩
      unfold primE
      rw [if_pos c]
      exact upd_same
    · rw [decide_eq_false fun z => c (Int.natCast_eq_zero.mp (V.int.inj z))]
      refine iteF ⟨_, rfl, t, l, rfl, SqL.of ht, hG, fun H1 s1 g1 => ?_⟩
      have ht1 := s1.lst hG ht
      have fin : ∀ c2 : Int, primE l = dv l c2 → (∀ x ∈ l, CDivQ x c2) → ∀ D, H1 D = none → ∃ W : Nat → Nat → Hp → Prop, (∃ m, W 0 m (upd H1 D (.lst []))) ∧ ∀ i m H, W i m H →
          ((Itl K t).stop i H ∧ Q (.ref D) H) ∨ ((Itl K t).go i H ∧ ∃ Nx : Hp → Prop, (∀ H', Nx H' → ∃ m', m' < m ∧ W (i + 1) m' H') ∧ ∀ x H', (Itl K t).yld i H x H' → gName 2 x (wipe (List.set (L2.start N_primitive_of [V.ref t]) 1 (some (V.int c2))) [2]) H' fun σ2 H2 => wipe σ2 [2] = wipe (List.set (L2.start N_primitive_of [V.ref t]) 1 (some (V.int c2))) [2] ∧ tYes σ2 H2 fun b H3 =>
            if b = true then tOp (rI CDivQ fun i j => V.int (i.fdiv j)) (tVar 2) (tVar 1) σ2 H3 fun y H4 => ∃ acc, H4 D = some (.lst acc) ∧ acc.length < sizeLine ∧ Nx (upd H4 D (.lst (acc ++ [y]))) else Nx H3) := fun c2 e hc D hD => by
        refine lc_list (xs := l.map V.int) (fun j H' => H' = upd H1 D (.lst (tab j fun k => (co l k).fdiv c2))) rfl (fun j H' _ hP => ?_) (fun j x H' hx hP => ?_) (fun H' hP => ?_)
        · rw [hP]
          exact SqL.of (same_upd0 hD _ _ ht1)
        · subst hP
          obtain ⟨hj, rfl⟩ := int_get hx
          refine ⟨rfl, _, rfl, _, rfl, _, _, rfl, rfl, hc _ (co_memE hj), _, upd_same, ?_, ?_⟩
          · rw [tab_len]
            exact small1000 (by omega)
          · rw [upd_upd, ← tab_snoc]
        · subst hP
          rw [List.length_map]
          refine q D _ (s1.trans (Sts.of (same_upd0 hD))) (g1.same (same_upd0 hD)) ?_
          rw [upd_same, tab_tb, dv_tb, e]
      refine ⟨_, _, rfl, rfl, _, rfl, ?_⟩
      by_cases d : 0 < foE l
      · rw [decide_eq_true d]
        refine iteT ⟨_, rfl, _, rfl, t, rfl, ⟨_, SqL.of ht1⟩, fin _ ?_ (hdo c)⟩
        unfold primE
        rw [if_neg c, if_pos d]
      · rw [decide_eq_false d]
        refine iteF ⟨_, rfl, _, rfl, _, rfl, t, rfl, ⟨_, SqL.of ht1⟩, fin _ ?_ fun x hx => cdivQ_neg (hdo c x hx)⟩
        unfold primE
        rw [if_neg c, if_neg d]
def lf (row head : List Int) (p : Nat) : List Int :=
  tb row.length fun k => co row k * (co head p).fdiv (Nat.gcd (co head p).natAbs (co row p).natAbs : Nat) - (co row p).fdiv (Nat.gcd (co head p).natAbs (co row p).natAbs : Nat) * co head k
def less (row head : List Int) (p : Nat) : List Int := if co row p = 0 then row else if 1 < gl (lf row head p) then dv (lf row head p) (gl (lf row head p)) else lf row head p
structure LessOk (row head : List Int) (p : Nat) : Prop where
  c1 : CDivQ (co head p) (Nat.gcd (co head p).natAbs (co row p).natAbs : Nat)
  c2 : CDivQ (co row p) (Nat.gcd (co head p).natAbs (co row p).natAbs : Nat)
  m1 : ∀ k, k < row.length → CMulW (co row k) ((co head p).fdiv (Nat.gcd (co head p).natAbs (co row p).natAbs : Nat))
  m2 : ∀ k, k < row.length → CMulW ((co row p).fdiv (Nat.gcd (co head p).natAbs (co row p).natAbs : Nat)) (co head k)
  d : DivOk (lf row head p)
def spLess : Sp := fun vs H Q _ => ∃ (a b : Addr) (row head : List Int) (p : Nat), vs = [.ref a, .ref b, .int p] ∧ H a = some (ls row) ∧ H b = some (ls head) ∧ row.length = head.length ∧ row.length ≤ 100 ∧ p < row.length ∧ (co row p ≠ 0 → LessOk row head p) ∧ ∀ q H', Same H H' → H' q = some (ls (less row head p)) → Q (.ref q) H'
theorem sz2 : 2 ≤ sizeLine := by decide
theorem ok_less_head (T : Facts K mg) : FnOk P w K mg base CX0 2 T.f_less_head T.fd_less_head ["row", "head", "place"] spLess := by
  have G_shared_of : FnOk P w K mg base CX0 1 T.f_shared_of T.fd_shared_of ["numbers"] (spSharedL K) := ok_shared_of T
  refine T.F_less_head.ok sc_less_head (fun vs H Q E h => ?_) (fun cdv A outer s H vs Q E hr h => ?_)
  · obtain ⟨a, b, row, head, p, rfl, _⟩ := h
    rfl
  · obtain ⟨a, b, row, head, p, rfl, ha, hb, hl, hl1, hp, ok, q⟩ := h
    refine ⟨_, (PSs.nox (pss_cons (ps_asg (pe_tup (pa_cons (pe_ix ix_list (pv 1) (pv 2) (fun _ _ => rfl)) (pa_cons (pe_ix ix_list (pv 0) (pv 2) (fun _ _ => rfl)) pa_nil))) (pg_tup (by rfl) (pgs_cons (pg_name (i := 3) sc_less_head.nd rfl (.inr rfl)) (pgs_cons (pg_name (i := 4) sc_less_head.nd rfl (.inr rfl)) pgs_nil))))
    (pss_cons (ps_if (pt_cmpR op_eq (pv 4) pe_int (nomark _))
      (pss_one (ps_ret (pv 0)))
      pss_nil)
    (pss_cons (ps_set (i := 5) sc_less_head.nd rfl (.inl rfl) (pe_callBfun cr_gcd (by rfl) T.m_gcd (pa_cons (pv 3) (pa_cons (pv 4) pa_nil))))
    (pss_cons (ps_asg (pe_tup (pa_cons (pe_op FDivQ.op_fdivQ (pv 3) (pv 5)) (pa_cons (pe_op FDivQ.op_fdivQ (pv 4) (pv 5)) pa_nil))) (pg_tup (by rfl) (pgs_cons (pg_name (i := 3) sc_less_head.nd rfl (.inr rfl)) (pgs_cons (pg_name (i := 4) sc_less_head.nd rfl (.inr rfl)) pgs_nil))))
    (pss_cons (ps_setLc (i := 6) (own := [("entry", 7), ("taken", 8)]) (g := (gTup K 2 (gCons (gName 7) (gCons (gName 8) gNil)))) (tt := tYes) rfl sc_less_head.nd rfl rfl (sw_true rfl rfl rfl (by decide +kernel)) (pi_zipA (by rfl) T.z_zip (pa_cons (pv 0) (pa_cons (pv 1) pa_nil))) (blkOk_by (N := N_less_head) (sc := defScope s_less_head) (by decide +kernel)) (fun _ _ _ _ _ => (pg_tup (by rfl) (pgs_cons (pg_name (i := 7) sc_less_head.nd rfl (.inl rfl)) (pgs_cons (pg_name (i := 8) sc_less_head.nd rfl (.inl rfl)) pgs_nil)))) (fun _ _ _ _ _ => pts_nil) (fun _ _ _ _ _ => (pe_op op_sub (pe_op op_mulW (pv 7) (pv 3)) (pe_op op_mulW (pv 4) (pv 8)))))
    (pss_cons (ps_set (i := 9) sc_less_head.nd rfl (.inr rfl) (pe_call G_shared_of hr (by rfl) T.g_shared_of T.F_shared_of.kp T.b_shared_of .nil pass0 (pa_cons (pv 6) pa_nil)))
    (pss_one (ps_ret (pe_ifExp (pt_cmpR op_gt (pv 9) pe_int (nomark _)) (pe_lc (own := [("entry", 7)]) (g := (gName 7)) (tt := tYes) (by rfl) sc_less_head.nd (pi_list (pv 6)) (blkOk_by (N := N_less_head) (sc := defScope s_less_head) (by decide +kernel)) (fun _ _ _ _ _ => (pg_name (i := 7) sc_less_head.nd rfl (.inl rfl))) (fun _ _ _ _ _ => pts_nil) (fun _ _ _ _ _ => (pe_op FDivQ.op_fdivQ (pv 7) (pv 9)))) (pv 6))))))))))), ?_⟩
    refine ⟨_, rfl, _, rfl, b, _, p, .int (co head p), rfl, rfl, SqL.of hb, atI_nat (get_int (by omega)), _, rfl, _, rfl, a, _, p, .int (co row p), rfl, rfl, SqL.of ha, atI_nat (get_int hp), sz2, fun t1 n1 => ?_⟩
    refine ⟨t1, _, rfl, SqT.of upd_same, rfl, _, _, rfl, _, _, rfl, rfl, ?_⟩
    have s1 := same_upd0 (o := .tup [.int (co head p), .int (co row p)]) n1
    generalize upd H t1 (.tup [.int (co head p), .int (co row p)]) = H1 at s1 ⊢
    refine ⟨_, rfl, rfl, _, rfl, ?_⟩
    by_cases c : co row p = 0
    · rw [decide_eq_true (show V.int (co row p) = V.int 0 by rw [c])]
      refine iteT ⟨_, rfl, q a H1 s1 ?_⟩
      unfold less
      rw [if_pos c]
      exact s1 _ _ ha
    · rw [decide_eq_false fun z => c (V.int.inj z)]
      have k := ok c
      refine iteF ⟨_, rfl, _, rfl, _, _, rfl, ?_⟩
      refine ⟨_, rfl, _, rfl, _, _, rfl, rfl, k.c1, _, rfl, _, rfl, _, _, rfl, rfl, k.c2, sz2, fun t2 n2 => ?_⟩
      refine ⟨t2, _, rfl, SqT.of upd_same, rfl, _, _, rfl, _, _, rfl, rfl, ?_⟩
      have m1 := k.m1
      have m2 := k.m2
      have dd := k.d
      have el : less row head p = if 1 < gl (lf row head p) then dv (lf row head p) (gl (lf row head p)) else lf row head p := if_neg c
      have ef : lf row head p = tb row.length fun k => co row k * (co head p).fdiv (Nat.gcd (co head p).natAbs (co row p).natAbs : Nat) - (co row p).fdiv (Nat.gcd (co head p).natAbs (co row p).natAbs : Nat) * co head k := rfl
      rw [el] at q
      clear k ok el
      dsimp only []
      generalize lf row head p = f at ef q dd
      generalize (co head p).fdiv (Nat.gcd (co head p).natAbs (co row p).natAbs : Nat) = o1 at m1 ef ⊢
      generalize (co row p).fdiv (Nat.gcd (co head p).natAbs (co row p).natAbs : Nat) = o2 at m2 ef ⊢
      have s2 : Same H (upd H1 t2 (.tup [.int o1, .int o2])) := fun b o e => same_upd0 n2 b o (s1 b o e)
      generalize upd H1 t2 (.tup [.int o1, .int o2]) = H2 at s2 ⊢
      refine ⟨_, rfl, _, rfl, a, b, _, _, rfl, .inl ⟨SqL.of (s2 _ _ ha), SqL.of (s2 _ _ hb), fun D hD => ?_⟩⟩
      refine lc_zipL (xs := row.map V.int) (ys := head.map V.int) (by rw [List.length_map, List.length_map, hl]) (fun j H' => Same H2 H' ∧ H' D = some (.lst (tab j fun k => co row k * o1 - o2 * co head k))) ⟨same_upd0 hD, upd_same⟩ (fun j H' _ hP => ⟨SqL.of (hP.1 _ _ (s2 _ _ ha)), SqL.of (hP.1 _ _ (s2 _ _ hb))⟩) (fun j x y A H' hx hy hP hA => ?_) (fun H' hP => ?_)
      · obtain ⟨sH, hD'⟩ := hP
        obtain ⟨hj, rfl⟩ := int_get hx
        obtain ⟨_, rfl⟩ := int_get hy
        have sA := same_upd0 (o := .tup [.int (co row j), .int (co head j)]) hA
        refine ⟨A, _, rfl, SqT.of upd_same, rfl, _, _, rfl, _, _, rfl, rfl, rfl, _, rfl, _, rfl, _, _, rfl, rfl, m1 j hj, _, rfl, _, rfl, _, _, rfl, rfl, m2 j hj, _, _, rfl, rfl, _, sA _ _ hD', ?_, fun b o e => ?_, ?_⟩
        · rw [tab_len]
          exact small1000 (by omega)
        · rw [upd_ne (ne_of_none e hD)]
          exact sA _ _ (sH _ _ e)
        · rw [upd_same, ← tab_snoc]
      · obtain ⟨s3, hL⟩ := hP
        rw [List.length_map, tab_tb, ← ef] at hL
        have hfl : f.length ≤ 100 := by rw [ef, tb_len]; exact hl1
        have s4 : Same H H' := fun b o e => s3 _ _ (s2 _ _ e)
        refine ⟨_, rfl, D, f, rfl, SqL.of hL, ?_⟩
        refine ⟨_, rfl, _, _, rfl, rfl, _, rfl, ?_⟩
        by_cases d : 1 < gl f
        · rw [decide_eq_true (show (1 : Int) < ((gl f : Nat) : Int) by omega)]
          rw [if_pos d] at q
          refine iteT ⟨_, rfl, D, rfl, ⟨_, SqL.of hL⟩, fun D2 hD2 => ?_⟩
          refine lc_list (xs := f.map V.int) (fun j H3 => H3 = upd H' D2 (.lst (tab j fun k => (co f k).fdiv (gl f)))) rfl (fun j H3 _ hP => ?_) (fun j x H3 hx hP => ?_) (fun H3 hP => ?_)
          · rw [hP]
            exact SqL.of (same_upd0 hD2 _ _ hL)
          · subst hP
            obtain ⟨hj, rfl⟩ := int_get hx
            refine ⟨rfl, _, rfl, _, rfl, _, _, rfl, rfl, dd (by omega) _ (co_memE hj), _, upd_same, ?_, ?_⟩
            · rw [tab_len]
              exact small1000 (by omega)
            · rw [upd_upd, ← tab_snoc]
          · subst hP
            rw [List.length_map]
            refine q D2 _ (fun b o e => same_upd0 hD2 _ _ (s4 _ _ e)) ?_
            rw [upd_same, tab_tb, dv_tb]
        · rw [decide_eq_false (show ¬ (1 : Int) < ((gl f : Nat) : Int) by omega)]
          rw [if_neg d] at q
          exact iteF ⟨_, rfl, q D H' s4 hL⟩
end
def lless (row head : List Int) (p : Nat) : List Int := if 1 < gl (lf row head p) then dv (lf row head p) (gl (lf row head p)) else lf row head p
theorem lc_enumL {K : PySem.W.Frag} {a : Addr} {xs : List V} {g : TG} {tt : TT} {te : TE} {vs : List Nat} {σ : L2.St} {H1 : Hp} {D : Addr} {Qd : Hp → Prop} (Pv : Nat → Hp → Prop) (h0 : Pv 0 (upd H1 D (.lst []))) (hq : ∀ i H, i ≤ xs.length → Pv i H → SqL K H a xs)
    (hs : ∀ (i : Nat) (x : V) (T : Addr) (H : Hp), xs[i]? = some x → Pv i H → H T = none → g (.ref T) (wipe σ vs) (upd H T (.tup [.int (i : Nat), x])) fun σ2 H2 => wipe σ2 vs = wipe σ vs ∧ tt σ2 H2 fun b H3 =>
      if b = true then te σ2 H3 fun y H4 => ∃ acc, H4 D = some (.lst acc) ∧ acc.length < sizeLine ∧ Pv (i + 1) (upd H4 D (.lst (acc ++ [y]))) else Pv (i + 1) H3) (hd : ∀ H, Pv xs.length H → Qd H) :
    ∃ W : Nat → Nat → Hp → Prop, (∃ m, W 0 m (upd H1 D (.lst []))) ∧ ∀ i m H, W i m H →
      ((Ite K a).stop i H ∧ Qd H) ∨ ((Ite K a).go i H ∧ ∃ Nx : Hp → Prop, (∀ H', Nx H' → ∃ m', m' < m ∧ W (i + 1) m' H') ∧ ∀ x H', (Ite K a).yld i H x H' → g x (wipe σ vs) H' fun σ2 H2 => wipe σ2 vs = wipe σ vs ∧ tt σ2 H2 fun b H3 =>
        if b = true then te σ2 H3 fun y H4 => ∃ acc, H4 D = some (.lst acc) ∧ acc.length < sizeLine ∧ Nx (upd H4 D (.lst (acc ++ [y]))) else Nx H3) := by
  refine ⟨fun i m H => m = xs.length - i ∧ i ≤ xs.length ∧ Pv i H, ⟨xs.length, by simp, Nat.zero_le _, h0⟩, ?_⟩
  rintro i m H ⟨rfl, hi, p⟩
  have qx := hq i H hi p
  by_cases hlt : i < xs.length
  · have hx : xs[i]? = some xs[i] := List.getElem?_eq_getElem hlt
    refine .inr ⟨⟨xs, _, qx, hx⟩, Pv (i + 1), fun H' p' => ⟨xs.length - (i + 1), by omega, rfl, hlt, p'⟩, fun v H' y => ?_⟩
    obtain ⟨T, x', rfl, hT, rfl, f1⟩ := y
    exact hs i x' T H (f1 xs qx) p hT
  · have e : i = xs.length := by omega
    subst e
    exact .inl ⟨⟨xs, qx, Nat.le_refl _⟩, hd H p⟩
theorem ne_lintsL {K : PySem.W.Frag} {H : Hp} {a b : Addr} {xs ys : List Int} {Q : VK} (ha : SqL K H a (xs.map V.int)) (hb : SqL K H b (ys.map V.int)) (q : Q (.bl (!decide (xs = ys))) H) : rNeD K (.ref a) (.ref b) H Q := by
  refine ⟨.list (xs.map PyData.int), .list (ys.map PyData.int), .lst ha (dpAll_ints xs), .lst hb (dpAll_ints ys), shaped_lints xs, shaped_lints ys, ?_⟩
  rw [show PyData.eqv (.list (xs.map PyData.int)) (.list (ys.map PyData.int)) = decide (xs = ys) from eqvAll_ints xs ys]
  exact q
def RX (p : Addr → List Int → Prop) : List Addr → List (List Int) → Prop
  | [], [] => True
  | a :: as, r :: rs => p a r ∧ RX p as rs
  | _, _ => False
theorem RX.len {p : Addr → List Int → Prop} : ∀ {as : List Addr} {rs : List (List Int)}, RX p as rs → as.length = rs.length
  | [], [], _ => rfl
  | a :: as, r :: rs, h => congrArg (· + 1) (RX.len h.2)
theorem RX.imp {p q : Addr → List Int → Prop} (f : ∀ a r, p a r → q a r) : ∀ {as : List Addr} {rs : List (List Int)}, RX p as rs → RX q as rs
  | [], [], _ => True.intro
  | a :: as, r :: rs, h => ⟨f _ _ h.1, RX.imp f h.2⟩
theorem RX.app {p : Addr → List Int → Prop} {bs : List Addr} {ss : List (List Int)} (g : RX p bs ss) : ∀ {as : List Addr} {rs : List (List Int)}, RX p as rs → RX p (as ++ bs) (rs ++ ss)
  | [], [], _ => g
  | a :: as, r :: rs, h => ⟨h.1, RX.app g h.2⟩
theorem RX.get {p : Addr → List Int → Prop} : ∀ {as : List Addr} {rs : List (List Int)} {i : Nat}, RX p as rs → i < rs.length → ∃ a r, as[i]? = some a ∧ rs[i]? = some r ∧ p a r
  | [], [], _, _, h => absurd h (Nat.not_lt_zero _)
  | a :: as, r :: rs, 0, h, _ => ⟨a, r, rfl, rfl, h.1⟩
  | a :: as, r :: rs, i + 1, h, hi => by
    obtain ⟨b, s, e1, e2, k⟩ := RX.get (i := i) h.2 (Nat.lt_of_succ_lt_succ hi)
    exact ⟨b, s, by rw [List.getElem?_cons_succ]; exact e1, by rw [List.getElem?_cons_succ]; exact e2, k⟩
theorem RX.erase {p : Addr → List Int → Prop} : ∀ {as : List Addr} {rs : List (List Int)} (i : Nat), RX p as rs → RX p (as.eraseIdx i) (rs.eraseIdx i)
  | [], [], _, _ => True.intro
  | a :: as, r :: rs, 0, h => h.2
  | a :: as, r :: rs, i + 1, h => ⟨h.1, RX.erase i h.2⟩
theorem RX.snoc {p : Addr → List Int → Prop} {as : List Addr} {rs : List (List Int)} {a : Addr} {r : List Int} (h : RX p as rs) (k : p a r) : RX p (as ++ [a]) (rs ++ [r]) := RX.app (bs := [a]) (ss := [r]) ⟨k, True.intro⟩ h
def RR (H : Hp) : List Addr → List (List Int) → Prop := RX fun a r => H a = some (ls r)
def RA (H : Hp) : List Addr → List (List Int) → Prop := RX fun a r => H a = some (tp r) ∨ H a = some (ls r)
def RT (H : Hp) : List Addr → List (List Int) → Prop := RX fun a r => H a = some (tp r)
theorem RR.same {H H' : Hp} {as : List Addr} {rs : List (List Int)} (h : RR H as rs) (s : Same H H') : RR H' as rs := RX.imp (fun a r e => s _ _ e) h
theorem RR.sts {Ps : List Addr} {H H' : Hp} {as : List Addr} {rs : List (List Int)} (h : RR H as rs) (s : Sts Ps H H') (g : Tg Ps H) : RR H' as rs := RX.imp (fun a r e => s.lst g e) h
theorem RA.same {H H' : Hp} {as : List Addr} {rs : List (List Int)} (h : RA H as rs) (s : Same H H') : RA H' as rs := RX.imp (fun a r e => e.imp (s _ _) (s _ _)) h
theorem RX.impM {p q : Addr → List Int → Prop} : ∀ {as : List Addr} {rs : List (List Int)}, (∀ a ∈ as, ∀ r, p a r → q a r) → RX p as rs → RX q as rs
  | [], [], _, _ => True.intro
  | a :: as, r :: rs, f, h => ⟨f a List.mem_cons_self r h.1, RX.impM (fun b hb => f b (List.mem_cons_of_mem _ hb)) h.2⟩
theorem row_ne {H : Hp} {b D : Addr} {r : List Int} {xs : List Addr} (h : H b = some (ls r)) (hD : H D = some (.lst (xs.map V.ref))) (hx : xs ≠ []) : b ≠ D := fun e => by
  rw [e, hD] at h
  have h := HO.lst.inj (Option.some.inj h)
  cases xs with
  | nil => exact hx rfl
  | cons x xs =>
    cases r with
    | nil => cases h
    | cons y r => cases h
theorem row_ne2 {H : Hp} {b D : Addr} {r : List Int} {xs : List Addr} (h : H b = some (ls r)) (hD : H D = some (.lst (xs.map V.ref))) (hr : r ≠ []) : b ≠ D := fun e => by
  rw [e, hD] at h
  have h := HO.lst.inj (Option.some.inj h)
  cases r with
  | nil => exact hr rfl
  | cons y r =>
    cases xs with
    | nil => cases h
    | cons x xs => cases h
theorem RR.upd {H : Hp} {D : Addr} {o : HO} {xs as : List Addr} {rs : List (List Int)} (h : RR H as rs) (hD : H D = some (.lst (xs.map V.ref))) (hx : as ≠ [] → xs ≠ []) : RR (L2.upd H D o) as rs :=
  RX.impM (fun a ha r e => by rw [upd_ne (row_ne e hD (hx fun z => by rw [z] at ha; cases ha))]; exact e) h
def hix (left : List (List Int)) (p : Nat) : Option Nat := left.findIdx? fun r => co r p != 0
def hds (left : List (List Int)) (p : Nat) : List Int := ((List.range left.length).filter fun i => co (left.getD i []) p != 0).map fun (i : Nat) => (i : Int)
theorem hds_hix (left : List (List Int)) (p : Nat) : (hds left p)[0]? = (hix left p).map fun (i : Nat) => (i : Int) := by
  unfold hds hix
  rw [List.getElem?_map, ← List.head?_eq_getElem?, List.head?_filter]
  congr 1
  cases e : List.findIdx? (fun r => co r p != 0) left with
  | none =>
    rw [List.find?_eq_none]
    intro i hi
    have hi : i < left.length := List.mem_range.mp hi
    have h := List.findIdx?_eq_none_iff.mp e left[i] (List.getElem_mem hi)
    rw [List.getD_eq_getElem?_getD, List.getElem?_eq_getElem hi]
    show ¬ (co left[i] p != 0) = true
    rw [h]
    exact Bool.false_ne_true
  | some k =>
    obtain ⟨hk, h1, h2⟩ := List.findIdx?_eq_some_iff_getElem.mp e
    refine List.find?_eq_some_iff_getElem.mpr ⟨?_, k, by rw [List.length_range]; exact hk, List.getElem_range _, fun j hj => ?_⟩
    · rw [List.getD_eq_getElem?_getD, List.getElem?_eq_getElem hk]
      exact h1
    · rw [List.getElem_range, List.getD_eq_getElem?_getD, List.getElem?_eq_getElem (Nat.lt_trans hj hk)]
      have := h2 j hj
      simpa using this
def stp (le : List Int → List Int → Nat → List Int) (p : Nat) (s : List (List Int) × List (List Int)) : List (List Int) × List (List Int) := match hix s.1 p with
  | none => s
  | some h => ((s.1.eraseIdx h).map fun r => le r (s.1.getD h []) p, (s.2.map fun r => le r (s.1.getD h []) p) ++ [s.1.getD h []])
def eS (le : List Int → List Int → Nat → List Int) (rows : List (List Int)) : Nat → List (List Int) × List (List Int)
  | 0 => (rows, [])
  | p + 1 => stp le p (eS le rows p)
def ech (le : List Int → List Int → Nat → List Int) (rows : List (List Int)) (w : Nat) : List (List Int) := (eS le rows w).2.map primE
structure EOk (le : List Int → List Int → Nat → List Int) (rows : List (List Int)) (w : Nat) : Prop where
  d : ∀ r ∈ (eS le rows w).2, DivOk r
  l : ∀ p, p < w → ∀ h, hix (eS le rows p).1 p = some h → ∀ r, (r ∈ (eS le rows p).1.eraseIdx h ∨ r ∈ (eS le rows p).2) → LessOk r ((eS le rows p).1.getD h []) p
theorem lc_rows {K : PySem.W.Frag} {a : Addr} {fs : List Addr} {R : List (List Int)} {f : List Int → List Int} {te : TE} {σ : L2.St} {k : Nat} {H1 : Hp} {D : Addr} {Qd : Hp → Prop} (hD : H1 D = none) (ha : H1 a = some (.lst (fs.map V.ref))) (hR : RR H1 fs R) (hl : R.length ≤ 100)
    (hw : ∀ x, wipe ((wipe σ [k]).set k (some x)) [k] = wipe σ [k])
    (hte : ∀ (ad : Addr) (r : List Int) (H2 : Hp) (Q : VK), r ∈ R → Same H1 H2 → H2 ad = some (ls r) → (∀ q H3, Same H2 H3 → H3 q = some (ls (f r)) → Q (.ref q) H3) → te ((wipe σ [k]).set k (some (.ref ad))) H2 Q)
    (hf : ∀ r ∈ R, f r ≠ []) (hd : ∀ bs H6, Same H1 H6 → H6 D = some (.lst (bs.map V.ref)) → RR H6 bs (R.map f) → Qd H6) :
    ∃ W : Nat → Nat → Hp → Prop, (∃ m, W 0 m (upd H1 D (.lst []))) ∧ ∀ i m H, W i m H →
      ((Itl K a).stop i H ∧ Qd H) ∨ ((Itl K a).go i H ∧ ∃ Nx : Hp → Prop, (∀ H', Nx H' → ∃ m', m' < m ∧ W (i + 1) m' H') ∧ ∀ x H', (Itl K a).yld i H x H' → gName k x (wipe σ [k]) H' fun σ2 H2 => wipe σ2 [k] = wipe σ [k] ∧ tYes σ2 H2 fun b H3 =>
        if b = true then te σ2 H3 fun y H4 => ∃ acc, H4 D = some (.lst acc) ∧ acc.length < sizeLine ∧ Nx (upd H4 D (.lst (acc ++ [y]))) else Nx H3) := by
  refine lc_list (xs := fs.map V.ref) (fun j H' => ∃ bs, Same H1 H' ∧ H' D = some (.lst (bs.map V.ref)) ∧ bs.length = j ∧ RR H' bs ((R.take j).map f)) ⟨[], same_upd0 hD, upd_same, rfl, True.intro⟩ (fun j H' _ hP => SqL.of (hP.choose_spec.1 _ _ ha)) (fun j x H' hx hP => ?_) (fun H' hP => ?_)
  · obtain ⟨bs, s1, h1, h2, h3⟩ := hP
    rw [List.getElem?_map] at hx
    obtain ⟨ad, had, rfl⟩ := Option.map_eq_some_iff.mp hx
    obtain ⟨ad', r, e1, e2, e3⟩ := RX.get hR (by rw [← hR.len]; exact (List.getElem?_eq_some_iff.mp had).1)
    rw [had] at e1
    cases e1
    have hj : j < R.length := (List.getElem?_eq_some_iff.mp e2).1
    refine ⟨hw _, ?_⟩
    show te _ _ _
    refine hte ad r H' _ (List.mem_of_getElem? e2) s1 (s1 _ _ e3) fun q H3 s3 e4 => ⟨bs.map V.ref, s3 _ _ h1, ?_, bs ++ [q], fun b o e => ?_, ?_, ?_, ?_⟩
    · rw [List.length_map, h2]
      exact small1000 (by omega)
    · rw [upd_ne (ne_of_none e hD)]
      exact s3 _ _ (s1 _ _ e)
    · rw [upd_same, List.map_append]
      rfl
    · rw [List.length_append, h2]
      rfl
    · rw [List.take_add_one, e2, List.map_append]
      refine RX.snoc (RR.upd (h3.same s3) (s3 _ _ h1) fun z => z) ?_
      show upd H3 D _ q = _
      by_cases hq : q = D
      · exact absurd hq (row_ne2 e4 (s3 _ _ h1) (hf r (List.mem_of_getElem? e2)))
      · rw [upd_ne hq]
        exact e4
  · obtain ⟨bs, s1, h1, h2, h3⟩ := hP
    rw [List.length_map, hR.len, List.take_length] at h3
    exact hd bs H' s1 h1 h3
theorem lc_rowsS {Ps : List Addr} {K : PySem.W.Frag} {a : Addr} {fs : List Addr} {R : List (List Int)} {f : List Int → List Int} {te : TE} {σ : L2.St} {k : Nat} {H1 : Hp} {D : Addr} {Qd : Hp → Prop} (hG : Tg Ps H1) (hD : H1 D = none) (ha : H1 a = some (.lst (fs.map V.ref))) (hR : RR H1 fs R) (hl : R.length ≤ 100)
    (hw : ∀ x, wipe ((wipe σ [k]).set k (some x)) [k] = wipe σ [k])
    (hte : ∀ (ad : Addr) (r : List Int) (H2 : Hp) (Q : VK), r ∈ R → Sts Ps H1 H2 → Tg Ps H2 → H2 ad = some (ls r) → (∀ q H3, Sts Ps H2 H3 → Tg Ps H3 → H3 q = some (ls (f r)) → Q (.ref q) H3) → te ((wipe σ [k]).set k (some (.ref ad))) H2 Q)
    (hf : ∀ r ∈ R, f r ≠ []) (hd : ∀ bs H6, Sts Ps H1 H6 → Tg Ps H6 → H6 D = some (.lst (bs.map V.ref)) → RR H6 bs (R.map f) → Qd H6) :
    ∃ W : Nat → Nat → Hp → Prop, (∃ m, W 0 m (upd H1 D (.lst []))) ∧ ∀ i m H, W i m H →
      ((Itl K a).stop i H ∧ Qd H) ∨ ((Itl K a).go i H ∧ ∃ Nx : Hp → Prop, (∀ H', Nx H' → ∃ m', m' < m ∧ W (i + 1) m' H') ∧ ∀ x H', (Itl K a).yld i H x H' → gName k x (wipe σ [k]) H' fun σ2 H2 => wipe σ2 [k] = wipe σ [k] ∧ tYes σ2 H2 fun b H3 =>
        if b = true then te σ2 H3 fun y H4 => ∃ acc, H4 D = some (.lst acc) ∧ acc.length < sizeLine ∧ Nx (upd H4 D (.lst (acc ++ [y]))) else Nx H3) := by
  refine lc_list (xs := fs.map V.ref) (fun j H' => ∃ bs, Sts Ps H1 H' ∧ Tg Ps H' ∧ H' D = some (.lst (bs.map V.ref)) ∧ bs.length = j ∧ RR H' bs ((R.take j).map f)) ⟨[], Sts.of (same_upd0 hD), hG.same (same_upd0 hD), upd_same, rfl, True.intro⟩ (fun j H' _ hP => SqL.of (hP.choose_spec.1.lst hG ha)) (fun j x H' hx hP => ?_) (fun H' hP => ?_)
  · obtain ⟨bs, s1, t1, h1, h2, h3⟩ := hP
    rw [List.getElem?_map] at hx
    obtain ⟨ad, had, rfl⟩ := Option.map_eq_some_iff.mp hx
    obtain ⟨ad', r, e1, e2, e3⟩ := RX.get hR (by rw [← hR.len]; exact (List.getElem?_eq_some_iff.mp had).1)
    rw [had] at e1
    cases e1
    have hj : j < R.length := (List.getElem?_eq_some_iff.mp e2).1
    refine ⟨hw _, ?_⟩
    show te _ _ _
    refine hte ad r H' _ (List.mem_of_getElem? e2) s1 t1 (s1.lst hG e3) fun q H3 s3 t3 e4 => ⟨bs.map V.ref, s3.lst t1 h1, ?_, bs ++ [q], fun b o nb e => ?_, ?_, ?_, ?_, ?_⟩
    · rw [List.length_map, h2]
      exact small1000 (by omega)
    · rw [upd_ne (ne_of_none e hD)]
      exact s3 _ _ nb (s1 _ _ nb e)
    · intro P m
      obtain ⟨ps, e, k2⟩ := t3 P m
      refine ⟨ps, ?_, k2⟩
      rw [upd_ne (fun z => by
        have h5 := s3.lst t1 h1
        rw [← z, e] at h5
        cases h5)]
      exact e
    · rw [upd_same, List.map_append]
      rfl
    · rw [List.length_append, h2]
      rfl
    · rw [List.take_add_one, e2, List.map_append]
      refine RX.snoc (RR.upd (h3.sts s3 t1) (s3.lst t1 h1) fun z => z) ?_
      show upd H3 D _ q = _
      by_cases hq : q = D
      · exact absurd hq (row_ne2 e4 (s3.lst t1 h1) (hf r (List.mem_of_getElem? e2)))
      · rw [upd_ne hq]
        exact e4
  · obtain ⟨bs, s1, t1, h1, h2, h3⟩ := hP
    rw [List.length_map, hR.len, List.take_length] at h3
    exact hd bs H' s1 t1 h1 h3
theorem primE_len (l : List Int) : (primE l).length = l.length := by
  unfold primE dv
  split
  · rfl
  · rw [List.length_map]
theorem erase_map : ∀ (l : List Addr) (h : Nat), (l.map V.ref).eraseIdx h = (l.eraseIdx h).map V.ref
  | [], _ => rfl
  | a :: l, 0 => rfl
  | a :: l, h + 1 => by
    show V.ref a :: (l.map V.ref).eraseIdx h = V.ref a :: (l.eraseIdx h).map V.ref
    rw [erase_map l h]
theorem less_len (row head : List Int) (p : Nat) : (less row head p).length = row.length := by
  unfold less dv lf
  split
  · rfl
  · split
    · rw [List.length_map, tb_len]
    · rw [tb_len]
theorem stp_none {le : List Int → List Int → Nat → List Int} {p : Nat} {s : List (List Int) × List (List Int)} (h : hix s.1 p = none) : stp le p s = s := by
  unfold stp
  rw [h]
theorem stp_some {le : List Int → List Int → Nat → List Int} {p h : Nat} {s : List (List Int) × List (List Int)} (e : hix s.1 p = some h) : stp le p s = ((s.1.eraseIdx h).map fun r => le r (s.1.getD h []) p, (s.2.map fun r => le r (s.1.getD h []) p) ++ [s.1.getD h []]) := by
  unfold stp
  rw [e]
theorem eS_len {rows : List (List Int)} {n : Nat} (h : ∀ r ∈ rows, r.length = n) : ∀ p, (∀ r ∈ (eS less rows p).1, r.length = n) ∧ ∀ r ∈ (eS less rows p).2, r.length = n
  | 0 => ⟨h, fun r hr => absurd hr List.not_mem_nil⟩
  | p + 1 => by
    obtain ⟨h1, h2⟩ := eS_len h p
    show (∀ r ∈ (stp less p (eS less rows p)).1, r.length = n) ∧ ∀ r ∈ (stp less p (eS less rows p)).2, r.length = n
    cases e : hix (eS less rows p).1 p with
    | none =>
      rw [stp_none e]
      exact ⟨h1, h2⟩
    | some k =>
      rw [stp_some e]
      refine ⟨fun r hr => ?_, fun r hr => ?_⟩
      · obtain ⟨x, hx, rfl⟩ := List.mem_map.mp hr
        rw [less_len]
        exact h1 x (List.mem_of_mem_eraseIdx hx)
      · rcases List.mem_append.mp hr with hr | hr
        · obtain ⟨x, hx, rfl⟩ := List.mem_map.mp hr
          rw [less_len]
          exact h2 x hx
        · rw [List.mem_singleton.mp hr]
          obtain ⟨hk, _, _⟩ := List.findIdx?_eq_some_iff_getElem.mp e
          rw [List.getD_eq_getElem?_getD, List.getElem?_eq_getElem hk]
          exact h1 _ (List.getElem_mem hk)
theorem eS_cnt (le : List Int → List Int → Nat → List Int) (rows : List (List Int)) : ∀ p, (eS le rows p).1.length + (eS le rows p).2.length = rows.length
  | 0 => rfl
  | p + 1 => by
    have ih := eS_cnt le rows p
    show (stp le p (eS le rows p)).1.length + (stp le p (eS le rows p)).2.length = _
    cases e : hix (eS le rows p).1 p with
    | none => rw [stp_none e]; exact ih
    | some k =>
      obtain ⟨hk, _, _⟩ := List.findIdx?_eq_some_iff_getElem.mp e
      rw [stp_some e]
      show ((eS le rows p).1.eraseIdx k |>.map _).length + (_ ++ [_]).length = _
      rw [List.length_map, List.length_eraseIdx_of_lt hk, List.length_append, List.length_map]
      show _ - 1 + (_ + 1) = _
      omega
section
variable {P : Program} {w : World} {K : PySem.W.Frag} {mg : Str → Option Value} {base : Heap} {Ps : List Addr}
def spEch (K : PySem.W.Frag) (Ps : List Addr) : Sp := fun vs H Q _ => ∃ (t : Addr) (as : List Addr) (rows : List (List Int)) (n : Nat), vs = [.ref t, .int n] ∧ (H t = some (.tup (as.map V.ref)) ∨ H t = some (.lst (as.map V.ref))) ∧ RA H as rows ∧ rows.length ≤ 100 ∧ n ≤ 100 ∧ (∀ r ∈ rows, r.length = n) ∧
  EOk less rows n ∧ Tg Ps H ∧ ∀ p bs H', Sts Ps H H' → Tg Ps H' → H' p = some (.lst (bs.map V.ref)) → RR H' bs (ech less rows n) → Q (.ref p) H'
theorem ok_echelon_rows (T : Facts K mg) (TB_first_of : TabB base mg T.c_first_of T.P_first_of) (hP : T.P_first_of ∈ Ps) : FnOk P w K mg base CX0 3 T.f_echelon_rows T.fd_echelon_rows ["rows", "width"] (spEch K Ps) := by
  have G_less_head : FnOk P w K mg base CX0 2 T.f_less_head T.fd_less_head ["row", "head", "place"] spLess := ok_less_head T
  have G_primitive_of := ok_primitive_of (P := P) (w := w) (base := base) T TB_first_of hP
  refine T.F_echelon_rows.ok sc_echelon_rows (fun vs H Q E h => ?_) (fun cdv A outer s H vs Q E hr h => ?_)
  · obtain ⟨t, as, rows, n, rfl, _⟩ := h
    rfl
  · obtain ⟨t, as, rows, n, rfl, hS, hA, hl, hn, hw, ok, hG, q⟩ := h
    refine ⟨_, (PSs.nox (pss_cons (ps_par (i := 2) (j := 3) (by rfl) sc_echelon_rows.nd rfl rfl (by decide) rfl rfl (pa_cons (pe_lc (own := [("row", 4)]) (g := (gName 4)) (tt := tYes) (by rfl) sc_echelon_rows.nd (SeqE.PI_or (pi_tup (pv 0)) (pi_list (pv 0))) (blkOk_by (N := N_echelon_rows) (sc := defScope s_echelon_rows) (by decide +kernel)) (fun _ _ _ _ _ => (pg_name (i := 4) sc_echelon_rows.nd rfl (.inl rfl))) (fun _ _ _ _ _ => pts_nil) (fun _ _ _ _ _ => (pe_callTy (ListOf.call_list_ofK (by rfl) : CallR _ (.type "list") (ListOf.rListOf K)) (by rfl) T.z_list (by decide +kernel) (pa_cons (pv 4) pa_nil)))) (pa_cons (pe_lst pa_nil) pa_nil)) (by rfl))
    (pss_cons (ps_for PassesOwn.never (by rfl) (pi_range1 (by rfl) T.z_range (pa_cons (pv 1) pa_nil)) (pg_name (i := 5) sc_echelon_rows.nd rfl (.inr rfl))
      (pss_cons (ps_setLc (i := 6) (own := [("row", 4), ("at", 7)]) (g := (gTup K 2 (gCons (gName 7) (gCons (gName 4) gNil)))) rfl sc_echelon_rows.nd rfl rfl (sw_true rfl rfl rfl (by decide +kernel)) (pi_enum (by rfl) T.z_enumerate (pa_cons (pv 2) pa_nil)) (blkOk_by (N := N_echelon_rows) (sc := defScope s_echelon_rows) (by decide +kernel)) (fun _ _ _ _ _ => (pg_tup (by rfl) (pgs_cons (pg_name (i := 7) sc_echelon_rows.nd rfl (.inl rfl)) (pgs_cons (pg_name (i := 4) sc_echelon_rows.nd rfl (.inl rfl)) pgs_nil)))) (fun _ _ _ _ _ => (pts_one (pt_cmpR op_ne (pe_ix (ix_list : IxR _ (rIxL K)) (pv 4) (pv 5) (fun _ _ => rfl)) pe_int (nomark _)))) (fun _ _ _ _ _ => (pv 7)))
      (pss_one (ps_if (pt_cmpR (op_neD (hu64 hr)) (pv 6) (pe_lst pa_nil) (nomark _))
        (pss_cons (ps_set (i := 8) sc_echelon_rows.nd rfl (.inr rfl) (pe_bm PySem.F.plainAttrs_list PySem.F.slot_list_pop PySem.F.type_list_pop mt_popAt (pv 2) (pa_cons (pe_ix ix_list (pv 6) pe_int (fun _ _ => rfl)) pa_nil)))
        (pss_cons (ps_set (i := 3) sc_echelon_rows.nd rfl (.inl rfl) (pe_lst (pa_star (pe_lc (own := [("row", 4)]) (g := (gName 4)) (tt := tYes) (by rfl) sc_echelon_rows.nd (pi_list (pv 3)) (blkOk_by (N := N_echelon_rows) (sc := defScope s_echelon_rows) (by decide +kernel)) (fun _ _ _ _ _ => (pg_name (i := 4) sc_echelon_rows.nd rfl (.inl rfl))) (fun _ _ _ _ _ => pts_nil) (fun _ _ _ _ _ => (pe_call G_less_head hr (by rfl) T.g_less_head T.F_less_head.kp T.b_less_head .nil pass0 (pa_cons (pv 4) (pa_cons (pv 8) (pa_cons (pv 5) pa_nil)))))) (pa_cons (pv 8) pa_nil))))
        (pss_one (ps_setLc (i := 2) (own := [("row", 4)]) (g := (gName 4)) (tt := tYes) rfl sc_echelon_rows.nd rfl rfl (sw_true rfl rfl rfl (by decide +kernel)) (pi_list (pv 2)) (blkOk_by (N := N_echelon_rows) (sc := defScope s_echelon_rows) (by decide +kernel)) (fun _ _ _ _ _ => (pg_name (i := 4) sc_echelon_rows.nd rfl (.inl rfl))) (fun _ _ _ _ _ => pts_nil) (fun _ _ _ _ _ => (pe_call G_less_head hr (by rfl) T.g_less_head T.F_less_head.kp T.b_less_head .nil pass0 (pa_cons (pv 4) (pa_cons (pv 8) (pa_cons (pv 5) pa_nil)))))))))
        pss_nil))))
    (pss_one (ps_ret (pe_lc (own := [("row", 4)]) (g := (gName 4)) (tt := tYes) (by rfl) sc_echelon_rows.nd (pi_list (pv 3)) (blkOk_by (N := N_echelon_rows) (sc := defScope s_echelon_rows) (by decide +kernel)) (fun _ _ _ _ _ => (pg_name (i := 4) sc_echelon_rows.nd rfl (.inl rfl))) (fun _ _ _ _ _ => pts_nil) (fun _ _ _ _ _ => (pe_call G_primitive_of hr (by rfl) T.g_primitive_of T.F_primitive_of.kp T.b_primitive_of .nil pass0 (pa_cons (pv 4) pa_nil))))))))), ?_⟩
    have step : ∀ (i : Nat) (x : V) (D : Addr) (H' : Hp), H D = none → (as.map V.ref)[i]? = some x → (∃ bs, Same H H' ∧ H' D = some (.lst (bs.map V.ref)) ∧ bs.length = i ∧ RR H' bs (rows.take i)) →
        ∃ a r, x = .ref a ∧ (H' a = some (ls r) ∨ H' a = some (tp r)) ∧ ∀ l, H' l = none → ∃ acc, (upd H' l (ls r)) D = some (.lst acc) ∧ acc.length < sizeLine ∧ ∃ bs, Same H (upd (upd H' l (ls r)) D (.lst (acc ++ [.ref l]))) ∧ (upd (upd H' l (ls r)) D (.lst (acc ++ [.ref l]))) D = some (.lst (bs.map V.ref)) ∧ bs.length = i + 1 ∧ RR (upd (upd H' l (ls r)) D (.lst (acc ++ [.ref l]))) bs (rows.take (i + 1)) := fun i x D H' hD hx hP => by
      obtain ⟨bs, s1, h1, h2, h3⟩ := hP
      rw [List.getElem?_map] at hx
      obtain ⟨a, ha, rfl⟩ := Option.map_eq_some_iff.mp hx
      have hi : i < rows.length := by
        rw [← hA.len]
        exact (List.getElem?_eq_some_iff.mp ha).1
      obtain ⟨a', r, e1, e2, k⟩ := RX.get hA hi
      rw [ha] at e1
      cases e1
      refine ⟨a, r, rfl, k.symm.imp (s1 _ _) (s1 _ _), fun l hl => ⟨bs.map V.ref, ?_, ?_, bs ++ [l], ?_, ?_, ?_, ?_⟩⟩
      · exact same_upd0 hl _ _ h1
      · rw [List.length_map, h2]
        exact small1000 (by omega)
      · intro b o e
        rw [upd_ne (ne_of_none e hD)]
        exact same_upd0 hl _ _ (s1 _ _ e)
      · rw [upd_same, List.map_append]
        rfl
      · rw [List.length_append, h2]
        rfl
      · have lD : l ≠ D := fun e => by
          rw [e, h1] at hl
          cases hl
        have hr2 : RR (upd H' l (ls r)) bs (rows.take i) := h3.same (same_upd0 hl)
        have et : rows.take (i + 1) = rows.take i ++ [r] := by
          rw [List.take_add_one, e2]
          rfl
        rw [et]
        refine RX.snoc (RR.upd hr2 (same_upd0 hl _ _ h1) fun z => z) ?_
        show upd (upd H' l (ls r)) D _ l = _
        rw [upd_ne lD]
        exact upd_same
    rcases hS with hS | hS
    case' inl =>
      refine .inl ⟨_, rfl, t, rfl, ⟨_, SqT.of hS⟩, fun D hD => ?_⟩
      refine lc_tup (xs := as.map V.ref) (fun j H' => ∃ bs, Same H H' ∧ H' D = some (.lst (bs.map V.ref)) ∧ bs.length = j ∧ RR H' bs (rows.take j)) ⟨[], same_upd0 hD, upd_same, rfl, True.intro⟩ (fun j H' _ hP => SqT.of (hP.choose_spec.1 _ _ hS)) (fun j x H' hx hP => by
        obtain ⟨a, r, rfl, k, f⟩ := step j x D H' hD hx hP
        exact ⟨rfl, _, rfl, a, r.map V.int, rfl, k.imp SqL.of SqT.of, fun l hl => f l hl⟩) (fun H1 hP => ?_)
    case' inr =>
      refine .inr ⟨_, rfl, t, rfl, ⟨_, SqL.of hS⟩, fun D hD => ?_⟩
      refine lc_list (xs := as.map V.ref) (fun j H' => ∃ bs, Same H H' ∧ H' D = some (.lst (bs.map V.ref)) ∧ bs.length = j ∧ RR H' bs (rows.take j)) ⟨[], same_upd0 hD, upd_same, rfl, True.intro⟩ (fun j H' _ hP => SqL.of (hP.choose_spec.1 _ _ hS)) (fun j x H' hx hP => by
        obtain ⟨a, r, rfl, k, f⟩ := step j x D H' hD hx hP
        exact ⟨rfl, _, rfl, a, r.map V.int, rfl, k.imp SqL.of SqT.of, fun l hl => f l hl⟩) (fun H1 hP => ?_)
    all_goals
      clear step
      obtain ⟨bs, s1, h1, h2, h3⟩ := hP
      rw [show rows.take ((as.map V.ref).length) = rows by rw [List.length_map, hA.len, List.take_length]] at h3
      have hbl := h3.len
      dsimp only [tCons, tLst, tNil]
      refine ⟨by decide, fun F hF => ⟨_, _, rfl, ?_⟩⟩
      have s2 : Same H (upd H1 F (.lst [])) := fun b o e => same_upd0 hF _ _ (s1 _ _ e)
      refine ⟨_, rfl, _, rfl, by omega, by omega, for_range (n := n) (fun i σ H' => ∃ L F ls' fs y4 y5 y6 y7 y8, σ = [some (.ref t), some (.int n), some (.ref L), some (.ref F), y4, y5, y6, y7, y8] ∧ Same H H' ∧ H L = none ∧ L ≠ F ∧ H' L = some (.lst (ls'.map V.ref)) ∧ H' F = some (.lst (fs.map V.ref)) ∧ RR H' ls' (eS less rows i).1 ∧ RR H' fs (eS less rows i).2) ⟨D, F, bs, [], none, none, none, none, none, rfl, s2, hD, (fun e => by rw [e, hF] at h1; cases h1), same_upd0 hF _ _ h1, upd_same, h3.same (same_upd0 hF), True.intro⟩ (fun i σ H' hi hP => ?_) (fun σ H' hP => ?_)⟩
      · obtain ⟨L, F, ls', fs, y4, y5, y6, y7, y8, rfl, sH, nL, nLF, eL, eF, rL, rF⟩ := hP
        rw [Int.zero_add]
        refine ⟨_, rfl, L, _, rfl, SqL.of eL, fun D2 hD2 => ?_⟩
        refine lc_enumL (xs := ls'.map V.ref) (fun j H3 => Same H' H3 ∧ H3 D2 = some (.lst ((((List.range j).filter fun k => co ((eS less rows i).1.getD k []) i != 0).map fun (k : Nat) => (k : Int)).map V.int))) ⟨same_upd0 hD2, upd_same⟩ (fun j H3 _ hP => SqL.of (hP.1 _ _ eL)) (fun j x A H3 hx hP hA => ?_) (fun H3 hP => ?_)
        · obtain ⟨s3, hL⟩ := hP
          rw [List.getElem?_map] at hx
          obtain ⟨a, ha, rfl⟩ := Option.map_eq_some_iff.mp hx
          obtain ⟨a', r, e1, e2, k⟩ := RX.get rL (by rw [← rL.len]; exact (List.getElem?_eq_some_iff.mp ha).1)
          rw [ha] at e1
          cases e1
          have eg : (eS less rows i).1.getD j [] = r := by rw [List.getD_eq_getElem?_getD, e2]; rfl
          have sA := same_upd0 (o := .tup [.int (j : Nat), .ref a]) hA
          have hri : i < r.length := by rw [(eS_len hw i).1 r (List.mem_of_getElem? e2)]; exact hi
          refine ⟨A, _, rfl, SqT.of upd_same, rfl, _, _, rfl, _, _, rfl, rfl, rfl, _, rfl, _, rfl, a, _, _, .int (co r i), rfl, rfl, SqL.of (sA _ _ (s3 _ _ k)), atI_nat (get_int hri), rfl, _, rfl, ?_⟩
          rw [List.range_succ, List.filter_append]
          by_cases d : co r i = 0
          · rw [decide_eq_true (show V.int (co r i) = V.int 0 by rw [d])]
            refine iteF ⟨fun b o e => sA _ _ (s3 _ _ e), ?_⟩
            rw [sA _ _ hL, List.filter_cons_of_neg (by rw [eg, d]; decide), List.filter_nil, List.append_nil]
          · rw [decide_eq_false fun z => d (V.int.inj z)]
            refine iteT ⟨_, rfl, _, sA _ _ hL, ?_, fun b o e => ?_, ?_⟩
            · rw [List.length_map, List.length_map]
              have hj : j < (eS less rows i).1.length := (List.getElem?_eq_some_iff.mp e2).1
              have h1 := List.length_filter_le (fun k => co ((eS less rows i).1.getD k []) i != 0) (List.range j)
              rw [List.length_range] at h1
              have := eS_cnt less rows i
              exact small1000 (by omega)
            · rw [upd_ne (ne_of_none e hD2)]
              exact sA _ _ (s3 _ _ e)
            · rw [upd_same, List.filter_cons_of_pos (by rw [eg]; simpa using d), List.filter_nil, List.map_append, List.map_append]
              rfl
        · obtain ⟨s3, hL⟩ := hP
          rw [List.length_map, rL.len] at hL
          have hL : H3 D2 = some (.lst ((hds (eS less rows i).1 i).map V.int)) := hL
          have s4 : Same H H3 := fun b o e => s3 _ _ (sH _ _ e)
          refine ⟨_, rfl, by decide, fun N hN => ne_lintsL (xs := hds (eS less rows i).1 i) (ys := []) (SqL.of (same_upd0 hN _ _ hL)) (SqL.of upd_same) ⟨_, rfl, ?_⟩⟩
          have s5 : Same H (upd H3 N (.lst [])) := fun b o e => same_upd0 hN _ _ (s4 _ _ e)
          have s6 : Same H' (upd H3 N (.lst [])) := fun b o e => same_upd0 hN _ _ (s3 _ _ e)
          cases eh : hix (eS less rows i).1 i with
          | none =>
            have e0 : hds (eS less rows i).1 i = [] := by
              have q := hds_hix (eS less rows i).1 i
              rw [eh] at q
              cases e1 : hds (eS less rows i).1 i with
              | nil => rfl
              | cons y ys =>
                rw [e1] at q
                cases q
            rw [e0]
            refine iteF ⟨L, F, ls', fs, y4, some (.int i), some (.ref D2), y7, y8, rfl, s5, nL, nLF, s6 _ _ eL, s6 _ _ eF, ?_, ?_⟩
            · show RR _ ls' (stp less i (eS less rows i)).1
              rw [stp_none eh]
              exact rL.same s6
            · show RR _ fs (stp less i (eS less rows i)).2
              rw [stp_none eh]
              exact rF.same s6
          | some h =>
            have q := hds_hix (eS less rows i).1 i
            rw [eh] at q
            have en : hds (eS less rows i).1 i ≠ [] := fun z => by
              rw [z] at q
              cases q
            rw [decide_eq_false en]
            have hL2 := same_upd0 (o := .lst []) hN _ _ hL
            generalize upd H3 N (.lst []) = H4 at s5 s6 hL2 ⊢
            refine iteT ?_
            obtain ⟨hh, _, _⟩ := List.findIdx?_eq_some_iff_getElem.mp eh
            obtain ⟨ad, r, g1, g2, g3⟩ := RX.get rL hh
            have eg : (eS less rows i).1.getD h [] = r := by rw [List.getD_eq_getElem?_getD, g2]; rfl
            have hll : h < (ls'.map V.ref).length := by
              rw [List.length_map]
              exact (List.getElem?_eq_some_iff.mp g1).1
            have hsm : (ls'.map V.ref).length ≤ 100 := by have := eS_cnt less rows i; rw [List.length_map, rL.len]; omega
            have hsi : seqIndex? (h : Int) (ls'.map V.ref).length = some h := by
              unfold seqIndex?
              have n1 : ¬ ((h : Int) < 0) := by omega
              simp only [if_neg n1]
              rw [if_pos (by simp; simpa using hll)]
              rfl
            have q0 : ((hds (eS less rows i).1 i).map V.int)[0]? = some (V.int (h : Nat)) := by
              rw [List.getElem?_map, q]
              rfl
            refine ⟨_, rfl, .inl ⟨rfl, _, SqL.of (s6 _ _ eL)⟩, _, rfl, D2, _, 0, .int (h : Nat), rfl, rfl, SqL.of hL2, atI_nat (j := 0) q0, L, _, (h : Nat), h, .ref ad, rfl, rfl, s6 _ _ eL, by omega, by omega, hsi, by rw [List.getElem?_map, g1]; rfl, ?_⟩
            have s7 : Same H (upd H4 L (.lst ((ls'.map V.ref).eraseIdx h))) := fun b o e => by
              rw [upd_ne (ne_of_none e nL)]
              exact s5 _ _ e
            have eL7 : (upd H4 L (.lst ((ls'.map V.ref).eraseIdx h))) L = some (.lst ((ls'.eraseIdx h).map V.ref)) := by
              rw [upd_same]
              rw [erase_map]
            have eF7 : (upd H4 L (.lst ((ls'.map V.ref).eraseIdx h))) F = some (.lst (fs.map V.ref)) := by
              rw [upd_ne (Ne.symm nLF)]
              exact s6 _ _ eF
            have hls : ls' ≠ [] := fun z => by
              rw [z] at hll
              exact absurd hll (Nat.not_lt_zero _)
            have rL7 : RR (upd H4 L (.lst ((ls'.map V.ref).eraseIdx h))) (ls'.eraseIdx h) ((eS less rows i).1.eraseIdx h) := RX.erase h (RR.upd (rL.same s6) (s6 _ _ eL) fun _ => hls)
            have rF7 : RR (upd H4 L (.lst ((ls'.map V.ref).eraseIdx h))) fs (eS less rows i).2 := RR.upd (rF.same s6) (s6 _ _ eL) fun _ => hls
            have g7 : (upd H4 L (.lst ((ls'.map V.ref).eraseIdx h))) ad = some (ls r) := by
              rw [upd_ne (row_ne (s6 _ _ g3) (s6 _ _ eL) hls)]
              exact s6 _ _ g3
            generalize upd H4 L (.lst ((ls'.map V.ref).eraseIdx h)) = H7 at s7 eL7 eF7 rL7 rF7 g7 ⊢
            have hok := ok.l i hi h eh
            rw [eg] at hok
            obtain ⟨n1, n2⟩ := eS_len hw i
            have hrl : r.length = n := n1 r (List.mem_of_getElem? g2)
            have hFl : (eS less rows i).2.length ≤ 100 := by have := eS_cnt less rows i; omega
            refine ⟨_, rfl, F, rfl, ⟨_, SqL.of eF7⟩, fun N2 hN2 => lc_rows (f := fun x => less x r i) hN2 eF7 rF7 hFl (fun _ => rfl) (fun ad2 r2 H2 Q2 hr2 s8 e8 kq => ⟨_, rfl, _, rfl, _, rfl, ad2, ad, r2, r, i, rfl, e8, s8 _ _ g7, by rw [n2 r2 hr2, hrl], by rw [n2 r2 hr2]; exact hn, by rw [n2 r2 hr2]; exact hi, fun _ => hok r2 (.inr hr2), kq⟩) (fun r2 hr2 z => ?_) (fun bs8 H8 s8 e8 r8 => ?_)⟩
            · have := less_len r2 r i
              rw [z, n2 r2 hr2] at this
              have : 0 = n := this
              omega
            · refine ⟨N2, _, rfl, .inr (SqL.of e8), _, rfl, ?_, fun F2 hF2 => ?_⟩
              · rw [List.length_append, List.length_map, r8.len, List.length_map]
                exact Nat.le_trans (Nat.add_le_add_right hFl 1) (by decide)
              have s9 : Same H7 (upd H8 F2 (.lst (bs8.map V.ref ++ [.ref ad]))) := fun b o e => same_upd0 hF2 _ _ (s8 _ _ e)
              have eF9 : (upd H8 F2 (.lst (bs8.map V.ref ++ [.ref ad]))) F2 = some (.lst ((bs8 ++ [ad]).map V.ref)) := by
                rw [upd_same, List.map_append]
                rfl
              have r9 : RR (upd H8 F2 (.lst (bs8.map V.ref ++ [.ref ad]))) (bs8 ++ [ad]) ((eS less rows i).2.map (fun x => less x r i) ++ [r]) := RX.snoc (r8.same (same_upd0 hF2)) (s9 _ _ g7)
              generalize upd H8 F2 (.lst (bs8.map V.ref ++ [.ref ad])) = H9 at s9 eF9 r9 ⊢
              have hLl : ((eS less rows i).1.eraseIdx h).length ≤ 100 := by have := eS_cnt less rows i; rw [List.length_eraseIdx_of_lt hh]; omega
              refine ⟨_, rfl, L, rfl, ⟨_, SqL.of (s9 _ _ eL7)⟩, fun L2 hL2 => lc_rows (f := fun x => less x r i) hL2 (s9 _ _ eL7) (rL7.same s9) hLl (fun _ => rfl) (fun ad2 r2 H2 Q2 hr2 s8 e8 kq => ⟨_, rfl, _, rfl, _, rfl, ad2, ad, r2, r, i, rfl, e8, s8 _ _ (s9 _ _ g7), by rw [n1 r2 (List.mem_of_mem_eraseIdx hr2), hrl], by rw [n1 r2 (List.mem_of_mem_eraseIdx hr2)]; exact hn, by rw [n1 r2 (List.mem_of_mem_eraseIdx hr2)]; exact hi, fun _ => hok r2 (.inl hr2), kq⟩) (fun r2 hr2 z => ?_) (fun bsA HA sA eA rA => ?_)⟩
              · have := less_len r2 r i
                rw [z, n1 r2 (List.mem_of_mem_eraseIdx hr2)] at this
                have : 0 = n := this
                omega
              · have nL2 : H L2 = none := by
                  cases e : H L2 with
                  | none => rfl
                  | some o =>
                    rw [s9 _ _ (s7 _ _ e)] at hL2
                    cases hL2
                refine ⟨L2, F2, bsA, bs8 ++ [ad], y4, some (.int i), some (.ref D2), y7, some (.ref ad), rfl, fun b o e => sA _ _ (s9 _ _ (s7 _ _ e)), nL2, fun e => ?_, eA, sA _ _ eF9, ?_, ?_⟩
                · rw [e, eF9] at hL2
                  cases hL2
                · show RR HA bsA (stp less i (eS less rows i)).1
                  rw [stp_some eh, eg]
                  exact rA
                · show RR HA (bs8 ++ [ad]) (stp less i (eS less rows i)).2
                  rw [stp_some eh, eg]
                  exact r9.same sA
      · obtain ⟨L, F, ls', fs, y4, y5, y6, y7, y8, rfl, sH, nL, nLF, eL, eF, rL, rF⟩ := hP
        have hFl : (eS less rows n).2.length ≤ 100 := by have := eS_cnt less rows n; omega
        have n2 := (eS_len hw n).2
        refine ⟨_, rfl, F, rfl, ⟨_, SqL.of eF⟩, fun D2 hD2 => lc_rowsS (Ps := Ps) (f := primE) (hG.same sH) hD2 eF rF hFl (fun _ => rfl) (fun ad r H2 Q2 hr2 s8 t8 e8 kq => ⟨_, rfl, ad, r, rfl, e8, by rw [n2 r hr2]; exact hn, ok.d r hr2, t8, kq⟩) (fun r hr2 z => ?_) (fun bs8 H8 s8 t8 e8 r8 => q D2 bs8 H8 ((Sts.of sH).trans s8) t8 e8 r8)⟩
        have e0 := primE_len r
        rw [z, n2 r hr2] at e0
        have e0 : n = 0 := e0.symm
        subst e0
        cases hr2
end
theorem lless_len (row head : List Int) (p : Nat) : (lless row head p).length = row.length := by
  unfold lless dv lf
  split
  · rw [List.length_map, tb_len]
  · rw [tb_len]
def ld (r : List Int) : Nat := r.findIdx (· != 0)
def nzs (r : List Int) : List Int := ((List.range r.length).filter fun i => co r i != 0).map fun (i : Nat) => (i : Int)
theorem nzs_ld {r : List Int} (h : ld r < r.length) : (nzs r)[0]? = some (ld r : Int) := by
  unfold nzs
  rw [List.getElem?_map, ← List.head?_eq_getElem?, List.head?_filter]
  have e : List.find? (fun i => co r i != 0) (List.range r.length) = some (ld r) := by
    refine List.find?_eq_some_iff_getElem.mpr ⟨?_, ld r, by rw [List.length_range]; exact h, List.getElem_range _, fun j hj => ?_⟩
    · rw [co_get h]
      exact List.findIdx_getElem (w := h)
    · rw [List.getElem_range, co_get (Nat.lt_trans hj h)]
      have := List.not_of_lt_findIdx hj
      simpa using this
  rw [e]
  rfl
section
variable {P : Program} {w : World} {K : PySem.W.Frag} {mg : Str → Option Value} {base : Heap} {Ps : List Addr}
def spLead : Sp := fun vs H Q _ => ∃ (t : Addr) (r : List Int), vs = [.ref t] ∧ H t = some (ls r) ∧ r.length ≤ 100 ∧ ld r < r.length ∧ ∀ H', Same H H' → Q (.int (ld r : Nat)) H'
theorem ok_lead_of (T : Facts K mg) : FnOk P w K mg base CX0 1 T.f_lead_of T.fd_lead_of ["row"] spLead := by
  refine T.F_lead_of.ok sc_lead_of (fun vs H Q E h => ?_) (fun cdv A outer s H vs Q E hr h => ?_)
  · obtain ⟨t, r, rfl, _⟩ := h
    rfl
  · obtain ⟨t, r, rfl, ht, hl, hlt, q⟩ := h
    refine ⟨_, (PSs.nox (pss_one (ps_ret (pe_ix ix_list (pe_lc (own := [("at", 1), ("entry", 2)]) (g := (gTup K 2 (gCons (gName 1) (gCons (gName 2) gNil)))) (by rfl) sc_lead_of.nd (pi_enum (by rfl) T.z_enumerate (pa_cons (pv 0) pa_nil)) (blkOk_by (N := N_lead_of) (sc := defScope s_lead_of) (by decide +kernel)) (fun _ _ _ _ _ => (pg_tup (by rfl) (pgs_cons (pg_name (i := 1) sc_lead_of.nd rfl (.inl rfl)) (pgs_cons (pg_name (i := 2) sc_lead_of.nd rfl (.inl rfl)) pgs_nil)))) (fun _ _ _ _ _ => (pts_one (pt_cmpR op_ne (pv 2) pe_int (nomark _)))) (fun _ _ _ _ _ => (pv 1))) pe_int (fun _ _ => rfl))))), ?_⟩
    refine ⟨_, rfl, t, _, rfl, SqL.of ht, fun D hD => ?_⟩
    refine lc_enumL (xs := r.map V.int) (fun j H3 => Same H H3 ∧ H3 D = some (.lst ((((List.range j).filter fun k => co r k != 0).map fun (k : Nat) => (k : Int)).map V.int))) ⟨same_upd0 hD, upd_same⟩ (fun j H3 _ hP => SqL.of (hP.1 _ _ ht)) (fun j x A H3 hx hP hA => ?_) (fun H3 hP => ?_)
    · obtain ⟨s3, hL⟩ := hP
      obtain ⟨hj, rfl⟩ := int_get hx
      have sA := same_upd0 (o := .tup [.int (j : Nat), .int (co r j)]) hA
      refine ⟨A, _, rfl, SqT.of upd_same, rfl, _, _, rfl, _, _, rfl, rfl, rfl, _, rfl, rfl, _, rfl, ?_⟩
      rw [List.range_succ, List.filter_append]
      by_cases d : co r j = 0
      · rw [decide_eq_true (show V.int (co r j) = V.int 0 by rw [d])]
        refine iteF ⟨fun b o e => sA _ _ (s3 _ _ e), ?_⟩
        rw [sA _ _ hL, List.filter_cons_of_neg (by rw [d]; decide), List.filter_nil, List.append_nil]
      · rw [decide_eq_false fun z => d (V.int.inj z)]
        refine iteT ⟨_, rfl, _, sA _ _ hL, ?_, fun b o e => ?_, ?_⟩
        · rw [List.length_map, List.length_map]
          have h1 := List.length_filter_le (fun k => co r k != 0) (List.range j)
          rw [List.length_range] at h1
          exact small1000 (by omega)
        · rw [upd_ne (ne_of_none e hD)]
          exact sA _ _ (s3 _ _ e)
        · rw [upd_same, List.filter_cons_of_pos (by simpa using d), List.filter_nil, List.map_append, List.map_append]
          rfl
    · obtain ⟨s3, hL⟩ := hP
      rw [List.length_map] at hL
      have hL : H3 D = some (.lst ((nzs r).map V.int)) := hL
      refine ⟨D, _, 0, .int (ld r : Nat), rfl, rfl, SqL.of hL, atI_nat (j := 0) ?_, q H3 s3⟩
      rw [List.getElem?_map, nzs_ld hlt]
      rfl
end
end K65

set_option Elab.async false
set_option linter.all false
set_option maxRecDepth 100000
set_option maxHeartbeats 4000000
set_option exponentiation.threshold 10000
namespace K65
open PySem PySem.Spec PyProof.Rows L2 StX RZ MyR SlX OwnR OwnF EnumT GxR GenNx FDivQ LA
theorem gl_iff {d : Nat} : ∀ (l : List Int) (a : Nat), d ∣ l.foldl (fun a x => Nat.gcd a x.natAbs) a ↔ d ∣ a ∧ ∀ x ∈ l, d ∣ x.natAbs
  | [], a => ⟨fun h => ⟨h, fun x hx => absurd hx List.not_mem_nil⟩, fun h => h.1⟩
  | y :: l, a => by
    rw [List.foldl_cons, gl_iff l]
    constructor
    · rintro ⟨h1, h2⟩
      refine ⟨Nat.dvd_trans h1 (Nat.gcd_dvd_left ..), fun x hx => ?_⟩
      rcases List.mem_cons.mp hx with rfl | hx
      · exact Nat.dvd_trans h1 (Nat.gcd_dvd_right ..)
      · exact h2 x hx
    · rintro ⟨h1, h2⟩
      exact ⟨Nat.dvd_gcd h1 (h2 y List.mem_cons_self), fun x hx => h2 x (List.mem_cons_of_mem _ hx)⟩
theorem gl_dvd {l : List Int} {x : Int} (h : x ∈ l) : gl l ∣ x.natAbs := ((gl_iff l 0).mp (Nat.dvd_refl _)).2 x h
theorem gl_dvdI {l : List Int} {x : Int} (h : x ∈ l) : (gl l : Int) ∣ x := Int.ofNat_dvd_left.mpr (gl_dvd h)
theorem dvd_gl {l : List Int} {d : Nat} (h : ∀ x ∈ l, d ∣ x.natAbs) : d ∣ gl l := (gl_iff l 0).mpr ⟨Nat.dvd_zero _, h⟩
theorem mem_co {l : List Int} {x : Int} (h : x ∈ l) : ∃ k, k < l.length ∧ co l k = x := by
  obtain ⟨k, hk, e⟩ := List.mem_iff_getElem.mp h
  exact ⟨k, hk, by rw [co_get hk, e]⟩
theorem dvd_glc {l : List Int} {d : Nat} (h : ∀ k, k < l.length → d ∣ (co l k).natAbs) : d ∣ gl l := dvd_gl fun x hx => by
  obtain ⟨k, hk, e⟩ := mem_co hx
  rw [← e]
  exact h k hk
theorem gl_dvdc (l : List Int) (k : Nat) : gl l ∣ (co l k).natAbs := by
  by_cases h : k < l.length
  · exact gl_dvd (co_memE h)
  · rw [co_far (by omega)]
    exact Nat.dvd_zero _
theorem gl_zero {l : List Int} (h : gl l = 0) (k : Nat) : co l k = 0 := by
  have := gl_dvdc l k
  rw [h] at this
  have := Nat.eq_zero_of_zero_dvd this
  omega
theorem co_dv (l : List Int) (c : Int) (k : Nat) : co (dv l c) k = (co l k).fdiv c := by
  by_cases h : k < l.length
  · have h2 : k < (dv l c).length := by
      unfold dv
      rw [List.length_map]
      exact h
    rw [co_get h2, co_get h]
    exact List.getElem_map ..
  · rw [co_far (l := dv l c) (by unfold dv; rw [List.length_map]; omega), co_far (by omega), Int.zero_fdiv]
theorem fdiv_ex {x c : Int} (h : c ∣ x) : c * x.fdiv c = x := Int.mul_fdiv_cancel' h
theorem dv_ex {l : List Int} (h : gl l ≠ 0) (k : Nat) : (gl l : Int) * co (dv l (gl l)) k = co l k := by
  rw [co_dv]
  exact fdiv_ex (Int.ofNat_dvd_left.mpr (gl_dvdc l k))
theorem gl_dv {l : List Int} (h : gl l ≠ 0) : gl (dv l (gl l)) = 1 := by
  have q : gl l * gl (dv l (gl l)) ∣ gl l := dvd_glc fun k _ => by
    rw [← dv_ex h k, Int.natAbs_mul, Int.natAbs_natCast]
    exact Nat.mul_dvd_mul_left _ (gl_dvdc _ _)
  have hp : 0 < gl l := Nat.pos_of_ne_zero h
  have h1 : gl (dv l (gl l)) ∣ 1 := Nat.dvd_of_mul_dvd_mul_left hp (by rw [Nat.mul_one]; exact q)
  exact Nat.dvd_one.mp h1
theorem red_le {w : Nat} {v : List Int} {u : Nat → Int} {α β : Int} (hv : gl v ≤ 1) (hl : v.length = w) (hα : α ≠ 0) (h : ∀ j, j < w → α * co v j = β * u j) : ∀ j, j < w → (co v j).natAbs ≤ (u j).natAbs := by
  have hn : ∀ j, j < w → α.natAbs * (co v j).natAbs = β.natAbs * (u j).natAbs := fun j hj => by
    rw [← Int.natAbs_mul, ← Int.natAbs_mul, h j hj]
  have ha : 0 < α.natAbs := by omega
  generalize α.natAbs = a at hn ha
  generalize β.natAbs = b at hn
  have hg : 0 < Nat.gcd a b := Nat.gcd_pos_of_pos_left _ ha
  obtain ⟨a', ea⟩ := Nat.gcd_dvd_left a b
  obtain ⟨b', eb⟩ := Nat.gcd_dvd_right a b
  have cop : Nat.Coprime a' b' := by
    have e1 : a' = a / Nat.gcd a b := Nat.eq_div_of_mul_eq_right (by omega) ea.symm
    have e2 : b' = b / Nat.gcd a b := Nat.eq_div_of_mul_eq_right (by omega) eb.symm
    rw [e1, e2]
    exact Nat.coprime_div_gcd_div_gcd hg
  have hn2 : ∀ j, j < w → a' * (co v j).natAbs = b' * (u j).natAbs := fun j hj => by
    refine Nat.eq_of_mul_eq_mul_left hg ?_
    rw [← Nat.mul_assoc, ← Nat.mul_assoc, ← ea, ← eb]
    exact hn j hj
  have ha' : 0 < a' := by
    rcases Nat.eq_zero_or_pos a' with z | z
    · rw [z, Nat.mul_zero] at ea
      omega
    · exact z
  have hb : b' ∣ gl v := dvd_glc fun k hk => cop.symm.dvd_of_dvd_mul_left ⟨_, hn2 k (hl ▸ hk)⟩
  intro j hj
  rcases Nat.eq_zero_or_pos (gl v) with z | z
  · rw [gl_zero z]
    exact Nat.zero_le _
  · have e1 : gl v = 1 := by omega
    rw [e1] at hb
    have e2 := Nat.dvd_one.mp hb
    have q := hn2 j hj
    rw [e2, Nat.one_mul] at q
    rw [← q]
    exact Nat.le_mul_of_pos_left _ ha'
abbrev row (B : List (List Int)) (k : Nat) : Nat → Int := co (B.getD k [])
def SpM (w : Nat) (B : List (List Int)) (v : List Int) : Prop := Sp w B.length (row B) (co v)
theorem row_mem {B : List (List Int)} {x : List Int} (h : x ∈ B) : ∃ k, k < B.length ∧ row B k = co x := by
  obtain ⟨k, hk, e⟩ := List.mem_iff_getElem.mp h
  exact ⟨k, hk, by unfold row; rw [List.getD_eq_getElem?_getD, List.getElem?_eq_getElem hk, e]; rfl⟩
theorem mem_row {B : List (List Int)} {k : Nat} (h : k < B.length) : B.getD k [] ∈ B := by
  rw [List.getD_eq_getElem?_getD, List.getElem?_eq_getElem h]
  exact List.getElem_mem h
theorem SpM.own {w : Nat} {B : List (List Int)} {x : List Int} (h : x ∈ B) : SpM w B x := by
  obtain ⟨k, hk, e⟩ := row_mem h
  unfold SpM
  rw [← e]
  exact Sp.own hk
theorem SpM.trans {w : Nat} {B B' : List (List Int)} {v : List Int} (h : SpM w B v) (g : ∀ x ∈ B, SpM w B' x) : SpM w B' v :=
  Sp.trans h fun k hk => g _ (mem_row hk)
theorem SpM.mono {w : Nat} {B B' : List (List Int)} {v : List Int} (h : SpM w B v) (g : ∀ x ∈ B, x ∈ B') : SpM w B' v := h.trans fun x hx => SpM.own (g x hx)
theorem SpM.lin {w : Nat} {B : List (List Int)} {u v t : List Int} {c : Int} (α β : Int) (hc : c ≠ 0) (h : SpM w B u) (g : SpM w B v) (e : ∀ j, j < w → c * co t j = α * co u j + β * co v j) : SpM w B t :=
  Sp.div hc (Sp.lin α β h g) e
theorem SpM.zero {w : Nat} {B : List (List Int)} {v : List Int} (h : ∀ j, j < w → co v j = 0) : SpM w B v := Sp.zero h
theorem SpM.mul {w : Nat} {B : List (List Int)} {u t : List Int} {c α : Int} (hc : c ≠ 0) (h : SpM w B u) (e : ∀ j, j < w → c * co t j = α * co u j) : SpM w B t :=
  h.lin α 0 hc h fun j hj => by rw [e j hj, Int.zero_mul, Int.add_zero]
theorem ind_of {w n : Nat} {A B : Nat → Nat → Int} (hA : Ind w n A) (h : ∀ i, i < n → Sp w n B (A i)) : Ind w n B := fun a ha i0 hi0 => by
  refine Classical.byContradiction fun ne => ?_
  obtain ⟨m, rfl⟩ : ∃ m, n = m + 1 := ⟨n - 1, by omega⟩
  have key : ∀ k, k < m + 1 → Sp w m (fun i => B (sk i0 i)) (B k) := fun k hk => by
    by_cases c : k = i0
    · subst c
      refine ⟨a k, ne, fun i => - a (sk k i), fun j hj => ?_⟩
      have e := ha j hj
      rw [S_skip _ k m (by omega)] at e
      rw [S_congr (g := fun i => (-1) * (a (sk k i) * B (sk k i) j)) fun i _ => by rw [Int.neg_mul, Int.neg_mul, Int.one_mul], S_mul]
      omega
    · obtain ⟨i, hi, e⟩ : ∃ i, i < m ∧ sk i0 i = k := by
        by_cases d : k < i0
        · exact ⟨k, by omega, if_pos d⟩
        · exact ⟨k - 1, by omega, by unfold sk; rw [if_neg (by omega)]; omega⟩
      rw [← e]
      exact Sp.own hi
  have := steinitz hA fun i hi => (h i hi).trans key
  omega
def BdE (R M : Nat) : Nat := R * ((2 * R * M + 1) ^ (R - 1) * M)
theorem Bd_mono {R R' M : Nat} (h : R ≤ R') : BdE R M ≤ BdE R' M := by
  unfold BdE
  refine Nat.mul_le_mul h (Nat.mul_le_mul_right _ ?_)
  refine Nat.le_trans (Nat.pow_le_pow_left (Nat.add_le_add_right (Nat.mul_le_mul_right _ (Nat.mul_le_mul_left _ h)) 1) _) ?_
  exact Nat.pow_le_pow_right (Nat.succ_pos _) (by omega)
theorem Bd_le {R M : Nat} (h : 1 ≤ R) : M ≤ BdE R M := by
  unfold BdE
  have h1 : 0 < (2 * R * M + 1) ^ (R - 1) := Nat.pow_pos (Nat.succ_pos _)
  have h2 := Nat.mul_le_mul_right M (show 1 ≤ (2 * R * M + 1) ^ (R - 1) from h1)
  have h3 := Nat.mul_le_mul_right ((2 * R * M + 1) ^ (R - 1) * M) h
  omega
theorem bd_left {w r M : Nat} {B : Nat → Nat → Int} {P : Nat → Nat} {v : List Int} (hl : v.length = w) (hv : gl v ≤ 1) (hM : ∀ i, i < r + 1 → ∀ j, (B i j).natAbs ≤ M) (hP : ∀ k, k < r → P k < w) (hI : Ind r r fun k j => B k (P j)) (hs : Sp w (r + 1) B (co v)) (hz : ∀ k, k < r → co v (P k) = 0) :
    ∀ j, j < w → (co v j).natAbs ≤ BdE (r + 1) M := by
  obtain ⟨y, ⟨i0, hi0, hy0⟩, hyb, hy⟩ := siegel r M (fun i k => B i (P k)) fun i hi k hk => hM i hi _
  obtain ⟨c, hc, a, ha⟩ := hs
  have yr : y r ≠ 0 := fun z => by
    have q := hI y (fun k hk => by
      have e := hy k hk
      have e : S r (fun i => y i * B i (P k)) + y r * B r (P k) = 0 := e
      rw [z, Int.zero_mul, Int.add_zero] at e
      exact e)
    by_cases d : i0 = r
    · rw [d] at hy0
      exact hy0 z
    · exact hy0 (q i0 (by omega))
  have D : ∀ j, j < w → y r * (c * co v j) - a r * S (r + 1) (fun i => y i * B i j) = S r (fun i => (y r * a i - a r * y i) * B i j) := fun j hj => by
    rw [ha j hj, ← S_mul, ← S_mul]
    have e : S r (fun i => (y r * a i - a r * y i) * B i j) = S r (fun i => y r * (a i * B i j)) + (-1) * S r (fun i => a r * (y i * B i j)) := by
      rw [← S_mul, ← S_add]
      exact S_congr fun i _ => by grind
    rw [e]
    show S r _ + y r * (a r * B r j) - (S r _ + a r * (y r * B r j)) = _
    grind
  have dz := hI (fun i => y r * a i - a r * y i) fun k hk => by
    rw [← D (P k) (hP k hk), hz k hk, hy k hk]
    rw [Int.mul_zero, Int.mul_zero, Int.mul_zero]
    rfl
  refine fun j hj => Nat.le_trans (red_le (u := fun j => S (r + 1) (fun i => y i * B i j)) (α := y r * c) (β := a r) hv hl (Int.mul_ne_zero yr hc) (fun j hj => ?_) j hj) (S_abs fun i hi => ?_)
  · have e := D j hj
    rw [S_zero (f := fun i => (y r * a i - a r * y i) * B i j) fun i hi => by rw [dz i hi, Int.zero_mul]] at e
    rw [Int.mul_assoc]
    exact Int.sub_eq_zero.mp e
  · rw [Int.natAbs_mul]
    exact Nat.mul_le_mul (hyb i) (hM i hi j)
theorem bd_found {w m M : Nat} {B : Nat → Nat → Int} {P : Nat → Nat} {v : List Int} {i0 : Nat} (hl : v.length = w) (hv : gl v ≤ 1) (hM : ∀ i, i < m + 1 → ∀ j, (B i j).natAbs ≤ M) (hP : ∀ k, k < m + 1 → P k < w) (hI : Ind (m + 1) (m + 1) fun k j => B k (P j)) (hs : Sp w (m + 1) B (co v)) (hi0 : i0 < m + 1) (hz : ∀ k, k < m + 1 → k ≠ i0 → co v (P k) = 0) :
    ∀ j, j < w → (co v j).natAbs ≤ BdE (m + 1) M := by
  obtain ⟨y, ⟨i1, hi1, hy1⟩, hyb, hy⟩ := siegel m M (fun i k => B i (P (sk i0 k))) fun i hi k hk => hM i hi _
  obtain ⟨c, hc, a, ha⟩ := hs
  have uz : ∀ k, k < m + 1 → k ≠ i0 → S (m + 1) (fun i => y i * B i (P k)) = 0 := fun k hk hne => by
    obtain ⟨i, hi, e⟩ : ∃ i, i < m ∧ sk i0 i = k := by
      by_cases d : k < i0
      · exact ⟨k, by omega, if_pos d⟩
      · exact ⟨k - 1, by omega, by unfold sk; rw [if_neg (by omega)]; omega⟩
    have := hy i hi
    rw [e] at this
    exact this
  have u0 : S (m + 1) (fun i => y i * B i (P i0)) ≠ 0 := fun z => hy1 (hI y (fun k hk => by
    by_cases d : k = i0
    · rw [d]
      exact z
    · exact uz k hk d) i1 hi1)
  generalize hU : S (m + 1) (fun i => y i * B i (P i0)) = U at u0
  have D : ∀ j, j < w → U * (c * co v j) - c * co v (P i0) * S (m + 1) (fun i => y i * B i j) = S (m + 1) (fun i => (U * a i - c * co v (P i0) * y i) * B i j) := fun j hj => by
    rw [ha j hj, ← S_mul, ← S_mul]
    have e : S (m + 1) (fun i => (U * a i - c * co v (P i0) * y i) * B i j) = S (m + 1) (fun i => U * (a i * B i j)) + (-1) * S (m + 1) (fun i => c * co v (P i0) * (y i * B i j)) := by
      rw [← S_mul, ← S_add]
      exact S_congr fun i _ => by grind
    rw [e]
    omega
  have dz := hI (fun i => U * a i - c * co v (P i0) * y i) fun k hk => by
    rw [← D (P k) (hP k hk)]
    by_cases d : k = i0
    · rw [d, hU]
      grind
    · rw [hz k hk d, uz k hk d]
      rw [Int.mul_zero, Int.mul_zero, Int.mul_zero]
      rfl
  refine fun j hj => Nat.le_trans (red_le (u := fun j => S (m + 1) (fun i => y i * B i j)) (α := U * c) (β := c * co v (P i0)) hv hl (Int.mul_ne_zero u0 hc) (fun j hj => ?_) j hj) (S_abs fun i hi => ?_)
  · have e := D j hj
    rw [S_zero (f := fun i => (U * a i - c * co v (P i0) * y i) * B i j) fun i hi => by rw [dz i hi, Int.zero_mul]] at e
    rw [Int.mul_assoc]
    exact Int.sub_eq_zero.mp e
  · rw [Int.natAbs_mul]
    exact Nat.mul_le_mul (hyb i) (hM i hi j)
structure LeP (le : List Int → List Int → Nat → List Int) : Prop where
  lin : ∀ row head p, co head p ≠ 0 → row.length = head.length → ∃ c : Int, c ≠ 0 ∧ ∀ j, c * co (le row head p) j = co head p * co row j - co row p * co head j
  len : ∀ row head p, (le row head p).length = row.length
  red : ∀ row head p, gl (le row head p) ≤ 1 ∨ le row head p = row
theorem lf_lin {row head : List Int} {p : Nat} (h : co head p ≠ 0) (hl : row.length = head.length) (j : Nat) : ((Nat.gcd (co head p).natAbs (co row p).natAbs : Nat) : Int) * co (lf row head p) j = co head p * co row j - co row p * co head j := by
  unfold lf
  have d1 : ((Nat.gcd (co head p).natAbs (co row p).natAbs : Nat) : Int) ∣ co head p := Int.ofNat_dvd_left.mpr (Nat.gcd_dvd_left ..)
  have d2 : ((Nat.gcd (co head p).natAbs (co row p).natAbs : Nat) : Int) ∣ co row p := Int.ofNat_dvd_left.mpr (Nat.gcd_dvd_right ..)
  have e1 := fdiv_ex d1
  have e2 := fdiv_ex d2
  generalize ((Nat.gcd (co head p).natAbs (co row p).natAbs : Nat) : Int) = g at e1 e2 ⊢
  rw [co_tb]
  by_cases hj : j < row.length
  · rw [if_pos hj]
    grind
  · rw [if_neg hj, co_far (l := row) (by omega), co_far (l := head) (i := j) (by omega), Int.mul_zero, Int.mul_zero, Int.mul_zero]
    rfl
theorem gcd_ne {a b : Int} (h : a ≠ 0) : ((Nat.gcd a.natAbs b.natAbs : Nat) : Int) ≠ 0 := by
  have := Nat.gcd_pos_of_pos_left b.natAbs (show 0 < a.natAbs by omega)
  omega
theorem lless_lin {row head : List Int} {p : Nat} (h : co head p ≠ 0) (hl : row.length = head.length) : ∃ c : Int, c ≠ 0 ∧ ∀ j, c * co (lless row head p) j = co head p * co row j - co row p * co head j := by
  unfold lless
  have g0 := gcd_ne (b := co row p) h
  by_cases d : 1 < gl (lf row head p)
  · rw [if_pos d]
    refine ⟨_, Int.mul_ne_zero g0 (show ((gl (lf row head p) : Nat) : Int) ≠ 0 by omega), fun j => ?_⟩
    rw [Int.mul_assoc, dv_ex (by omega), lf_lin h hl]
  · rw [if_neg d]
    exact ⟨_, g0, lf_lin h hl⟩
theorem lless_red (row head : List Int) (p : Nat) : gl (lless row head p) ≤ 1 := by
  unfold lless
  by_cases d : 1 < gl (lf row head p)
  · rw [if_pos d, gl_dv (by omega)]
    exact Nat.le_refl _
  · rw [if_neg d]
    omega
theorem less_eq {row head : List Int} {p : Nat} (h : co row p ≠ 0) : less row head p = lless row head p := by
  unfold less lless
  rw [if_neg h]
theorem less_id {row head : List Int} {p : Nat} (h : co row p = 0) : less row head p = row := by
  unfold less
  rw [if_pos h]
theorem lePL : LeP lless := ⟨fun _ _ _ h hl => lless_lin h hl, lless_len, fun _ _ _ => .inl (lless_red ..)⟩
theorem lePP : LeP less := ⟨fun row head p h hl => by
  by_cases c : co row p = 0
  · rw [less_id c]
    exact ⟨_, h, fun j => by rw [c, Int.zero_mul, Int.sub_zero]⟩
  · rw [less_eq c]
    exact lless_lin h hl, less_len, fun row head p => by
  by_cases c : co row p = 0
  · exact .inr (less_id c)
  · rw [less_eq c]
    exact .inl (lless_red ..)⟩
structure Inv (w : Nat) (rows : List (List Int)) (p : Nat) (left found Hh : List (List Int)) (P : List Nat) : Prop where
  hr : ∀ x ∈ Hh, x ∈ rows
  hl : Hh.length = found.length
  pl : P.length = found.length
  lf : ∀ r ∈ left, ∃ x ∈ rows, SpM w (Hh ++ [x]) r
  ff : ∀ r ∈ found, SpM w Hh r
  lz : ∀ r ∈ left, ∀ j, j < p → co r j = 0
  pp : ∀ k, k < found.length → P.getD k 0 < p
  nz : ∀ k, k < found.length → row found k (P.getD k 0) ≠ 0
  z : ∀ i k, i < found.length → k < found.length → k ≠ i → row found k (P.getD i 0) = 0
  be : ∀ k, k < found.length → ∀ j, j < P.getD k 0 → row found k j = 0
  rd : ∀ r, r ∈ left ∨ r ∈ found → gl r ≤ 1 ∨ r ∈ rows
  rv : ∀ x ∈ rows, SpM w (found ++ left) x
  ll : ∀ r, r ∈ left ∨ r ∈ found → r.length = w
theorem row_app {A : List (List Int)} {x : List Int} {k : Nat} : row (A ++ [x]) k = if k < A.length then row A k else if k = A.length then co x else co [] := by
  unfold row
  rw [List.getD_eq_getElem?_getD, List.getD_eq_getElem?_getD]
  by_cases h : k < A.length
  · rw [if_pos h, List.getElem?_append_left h]
  · rw [if_neg h, List.getElem?_append_right (by omega)]
    by_cases e : k = A.length
    · rw [if_pos e, e, Nat.sub_self]
      rfl
    · rw [if_neg e, List.getElem?_eq_none (by show 1 ≤ _; omega)]
      rfl
theorem row_map {A : List (List Int)} {f : List Int → List Int} {k : Nat} (h : k < A.length) : row (A.map f) k = co (f (A.getD k [])) := by
  unfold row
  rw [List.getD_eq_getElem?_getD, List.getD_eq_getElem?_getD, List.getElem?_map, List.getElem?_eq_getElem h]
  rfl
theorem getD_app {P : List Nat} {x k : Nat} : (P ++ [x]).getD k 0 = if k < P.length then P.getD k 0 else if k = P.length then x else 0 := by
  rw [List.getD_eq_getElem?_getD, List.getD_eq_getElem?_getD]
  by_cases h : k < P.length
  · rw [if_pos h, List.getElem?_append_left h]
  · rw [if_neg h, List.getElem?_append_right (by omega)]
    by_cases e : k = P.length
    · rw [if_pos e, e, Nat.sub_self]
      rfl
    · rw [if_neg e, List.getElem?_eq_none (by show 1 ≤ _; omega)]
      rfl
theorem hix_some {left : List (List Int)} {p h : Nat} (e : hix left p = some h) : h < left.length ∧ co (left.getD h []) p ≠ 0 := by
  obtain ⟨hh, h1, _⟩ := List.findIdx?_eq_some_iff_getElem.mp e
  refine ⟨hh, ?_⟩
  rw [List.getD_eq_getElem?_getD, List.getElem?_eq_getElem hh]
  show co left[h] p ≠ 0
  simpa using h1
theorem hix_none {left : List (List Int)} {p : Nat} (e : hix left p = none) : ∀ r ∈ left, co r p = 0 := fun r hr => by
  have := List.findIdx?_eq_none_iff.mp e r hr
  simpa using this
theorem Inv.init {w : Nat} {rows : List (List Int)} (hw : ∀ r ∈ rows, r.length = w) : Inv w rows 0 rows [] [] [] :=
  ⟨fun x hx => absurd hx List.not_mem_nil, rfl, rfl, fun r hr => ⟨r, hr, SpM.own (by simp)⟩, fun r hr => absurd hr List.not_mem_nil, fun r _ j hj => absurd hj (Nat.not_lt_zero _), fun k hk => absurd hk (Nat.not_lt_zero _), fun k hk => absurd hk (Nat.not_lt_zero _), fun i k hi => absurd hi (Nat.not_lt_zero _), fun k hk => absurd hk (Nat.not_lt_zero _), fun r hr => .inr (hr.resolve_right List.not_mem_nil), fun x hx => SpM.own (by simpa using hx), fun r hr => hw r (hr.resolve_right List.not_mem_nil)⟩
theorem Inv.none {w p : Nat} {rows left found Hh : List (List Int)} {P : List Nat} (I : Inv w rows p left found Hh P) (e : hix left p = none) : Inv w rows (p + 1) left found Hh P :=
  ⟨I.hr, I.hl, I.pl, I.lf, I.ff, fun r hr j hj => by
    by_cases c : j = p
    · rw [c]
      exact hix_none e r hr
    · exact I.lz r hr j (by omega), fun k hk => Nat.lt_succ_of_lt (I.pp k hk), I.nz, I.z, I.be, I.rd, I.rv, I.ll⟩
theorem Inv.some {le : List Int → List Int → Nat → List Int} (hle : LeP le) {w p h : Nat} {rows left found Hh : List (List Int)} {P : List Nat} (I : Inv w rows p left found Hh P) (hp : p < w) (e : hix left p = .some h) :
    ∃ x, Inv w rows (p + 1) ((left.eraseIdx h).map fun r => le r (left.getD h []) p) ((found.map fun r => le r (left.getD h []) p) ++ [left.getD h []]) (Hh ++ [x]) (P ++ [p]) := by
  obtain ⟨hh, hd⟩ := hix_some e
  have hm : left.getD h [] ∈ left := mem_row hh
  generalize hH : left.getD h [] = hed at hd hm
  obtain ⟨x, hx, hs⟩ := I.lf hed hm
  have hlen := I.ll hed (.inl hm)
  have sub : ∀ r ∈ left.eraseIdx h, r ∈ left := fun r hr => List.mem_of_mem_eraseIdx hr
  have lin : ∀ r, r ∈ left ∨ r ∈ found → ∃ c : Int, c ≠ 0 ∧ ∀ j, c * co (le r hed p) j = co hed p * co r j - co r p * co hed j := fun r hr => hle.lin r hed p hd (by rw [I.ll r hr, hlen])
  have van : ∀ r, r ∈ left ∨ r ∈ found → ∀ j, co r j = 0 → co hed j = 0 → co (le r hed p) j = 0 := fun r hr j h1 h2 => by
    obtain ⟨c, hc, q⟩ := lin r hr
    have := q j
    rw [h1, h2, Int.mul_zero, Int.mul_zero] at this
    exact (Int.mul_eq_zero.mp this).resolve_left hc
  have vanp : ∀ r, r ∈ left ∨ r ∈ found → co (le r hed p) p = 0 := fun r hr => by
    obtain ⟨c, hc, q⟩ := lin r hr
    have := q p
    rw [Int.mul_comm (co hed p), Int.sub_self] at this
    · exact (Int.mul_eq_zero.mp this).resolve_left hc
  have keep : ∀ r, r ∈ left ∨ r ∈ found → ∀ j, co r j ≠ 0 → co hed j = 0 → co (le r hed p) j ≠ 0 := fun r hr j h1 h2 z => by
    obtain ⟨c, hc, q⟩ := lin r hr
    have := q j
    rw [z, h2, Int.mul_zero, Int.mul_zero, Int.sub_zero] at this
    rcases Int.mul_eq_zero.mp this.symm with z | z
    · exact hd z
    · exact h1 z
  have hz : ∀ j, j < p → co hed j = 0 := I.lz hed hm
  have fl : (found.map fun r => le r hed p).length = found.length := List.length_map ..
  have rw1 : ∀ k, k < found.length → row ((found.map fun r => le r hed p) ++ [hed]) k = co (le (found.getD k []) hed p) := fun k hk => by
    rw [row_app, fl, if_pos hk, row_map hk]
  have rw2 : row ((found.map fun r => le r hed p) ++ [hed]) found.length = co hed := by
    rw [row_app, fl, if_neg (Nat.lt_irrefl _), if_pos rfl]
  have pw1 : ∀ k, k < found.length → (P ++ [p]).getD k 0 = P.getD k 0 := fun k hk => by rw [getD_app, I.pl, if_pos hk]
  have pw2 : (P ++ [p]).getD found.length 0 = p := by rw [getD_app, I.pl, if_neg (Nat.lt_irrefl _), if_pos rfl]
  have nl : ((found.map fun r => le r hed p) ++ [hed]).length = found.length + 1 := by
    rw [List.length_append, fl]
    rfl
  refine ⟨x, fun y hy => ?_, ?_, ?_, fun r hr => ?_, fun r hr => ?_, fun r hr j hj => ?_, fun k hk => ?_, fun k hk => ?_, fun i k hi hk hne => ?_, fun k hk j hj => ?_, fun r hr => ?_, fun y hy => ?_, fun r hr => ?_⟩
  · rcases List.mem_append.mp hy with hy | hy
    · exact I.hr y hy
    · rw [List.mem_singleton.mp hy]
      exact hx
  · rw [List.length_append, List.length_append, fl, I.hl]
    rfl
  · rw [List.length_append, List.length_append, fl, I.pl]
    rfl
  · obtain ⟨r0, hr0, rfl⟩ := List.mem_map.mp hr
    obtain ⟨y, hy, hs2⟩ := I.lf r0 (sub r0 hr0)
    obtain ⟨c, hc, q⟩ := lin r0 (.inl (sub r0 hr0))
    refine ⟨y, hy, SpM.lin (co hed p) (- co r0 p) hc (hs2.mono fun z hz => ?_) (hs.mono fun z hz => ?_) fun j _ => by rw [q j, Int.neg_mul, Int.sub_eq_add_neg]⟩
    · simp only [List.mem_append, List.mem_singleton] at hz ⊢
      rcases hz with hz | hz
      · exact .inl (.inl hz)
      · exact .inr hz
    · exact List.mem_append.mpr (.inl hz)
  · rcases List.mem_append.mp hr with hr | hr
    · obtain ⟨r0, hr0, rfl⟩ := List.mem_map.mp hr
      obtain ⟨c, hc, q⟩ := lin r0 (.inr hr0)
      exact SpM.lin (co hed p) (- co r0 p) hc ((I.ff r0 hr0).mono fun z hz => List.mem_append.mpr (.inl hz)) hs fun j _ => by rw [q j, Int.neg_mul, Int.sub_eq_add_neg]
    · rw [List.mem_singleton.mp hr]
      exact hs
  · obtain ⟨r0, hr0, rfl⟩ := List.mem_map.mp hr
    by_cases c : j = p
    · rw [c]
      exact vanp r0 (.inl (sub r0 hr0))
    · exact van r0 (.inl (sub r0 hr0)) j (I.lz r0 (sub r0 hr0) j (by omega)) (hz j (by omega))
  · rw [nl] at hk
    by_cases c : k = found.length
    · rw [c, pw2]
      exact Nat.lt_succ_self _
    · rw [pw1 k (by omega)]
      exact Nat.lt_succ_of_lt (I.pp k (by omega))
  · rw [nl] at hk
    by_cases c : k = found.length
    · rw [c, pw2, rw2]
      exact hd
    · have hk : k < found.length := by omega
      rw [pw1 k hk, rw1 k hk]
      exact keep _ (.inr (mem_row hk)) _ (I.nz k hk) (hz _ (I.pp k hk))
  · rw [nl] at hi hk
    by_cases c : k = found.length
    · have hi : i < found.length := by omega
      rw [c, rw2, pw1 i hi]
      exact hz _ (I.pp i hi)
    · have hk : k < found.length := by omega
      rw [rw1 k hk]
      by_cases d : i = found.length
      · rw [d, pw2]
        exact vanp _ (.inr (mem_row hk))
      · have hi : i < found.length := by omega
        rw [pw1 i hi]
        exact van _ (.inr (mem_row hk)) _ (I.z i k hi hk hne) (hz _ (I.pp i hi))
  · rw [nl] at hk
    by_cases c : k = found.length
    · rw [c, pw2] at hj
      rw [c, rw2]
      exact hz j hj
    · have hk : k < found.length := by omega
      rw [pw1 k hk] at hj
      rw [rw1 k hk]
      exact van _ (.inr (mem_row hk)) _ (I.be k hk j hj) (hz j (Nat.lt_trans hj (I.pp k hk)))
  · have key : ∀ r0, r0 ∈ left ∨ r0 ∈ found → gl (le r0 hed p) ≤ 1 ∨ le r0 hed p ∈ rows := fun r0 h0 => by
      rcases hle.red r0 hed p with g | g
      · exact .inl g
      · rw [g]
        exact I.rd r0 h0
    rcases hr with hr | hr
    · obtain ⟨r0, hr0, rfl⟩ := List.mem_map.mp hr
      exact key r0 (.inl (sub r0 hr0))
    · rcases List.mem_append.mp hr with hr | hr
      · obtain ⟨r0, hr0, rfl⟩ := List.mem_map.mp hr
        exact key r0 (.inr hr0)
      · rw [List.mem_singleton.mp hr]
        exact I.rd hed (.inl hm)
  · refine (I.rv y hy).trans fun r hr => ?_
    have hin : SpM w (((found.map fun r => le r hed p) ++ [hed]) ++ ((left.eraseIdx h).map fun r => le r hed p)) hed := SpM.own (by simp)
    have back : ∀ r0, r0 ∈ left ∨ r0 ∈ found → le r0 hed p ∈ ((found.map fun r => le r hed p) ++ [hed]) ++ ((left.eraseIdx h).map fun r => le r hed p) → SpM w (((found.map fun r => le r hed p) ++ [hed]) ++ ((left.eraseIdx h).map fun r => le r hed p)) r0 := fun r0 h0 hm0 => by
      obtain ⟨c, hc, q⟩ := lin r0 h0
      exact SpM.lin c (co r0 p) hd (SpM.own hm0) hin fun j _ => by rw [q j]; omega
    rcases List.mem_append.mp hr with hr | hr
    · exact back r (.inr hr) (List.mem_append.mpr (.inl (List.mem_append.mpr (.inl (List.mem_map.mpr ⟨r, hr, rfl⟩)))))
    · obtain ⟨i, hi, ei⟩ := List.mem_iff_getElem.mp hr
      by_cases c : i = h
      · have : r = hed := by
          rw [← ei, ← hH, List.getD_eq_getElem?_getD]
          subst c
          rw [List.getElem?_eq_getElem hi]
          rfl
        rw [this]
        exact hin
      · exact back r (.inl hr) (List.mem_append.mpr (.inr (List.mem_map.mpr ⟨r, List.mem_eraseIdx_iff_getElem.mpr ⟨i, hi, c, ei⟩, rfl⟩)))
  · have key : ∀ r0, r0 ∈ left ∨ r0 ∈ found → (le r0 hed p).length = w := fun r0 h0 => by
      rw [hle.len]
      exact I.ll r0 h0
    rcases hr with hr | hr
    · obtain ⟨r0, hr0, rfl⟩ := List.mem_map.mp hr
      exact key r0 (.inl (sub r0 hr0))
    · rcases List.mem_append.mp hr with hr | hr
      · obtain ⟨r0, hr0, rfl⟩ := List.mem_map.mp hr
        exact key r0 (.inr hr0)
      · rw [List.mem_singleton.mp hr]
        exact hlen
theorem inv {le : List Int → List Int → Nat → List Int} (hle : LeP le) {w : Nat} {rows : List (List Int)} (hw : ∀ r ∈ rows, r.length = w) : ∀ p, p ≤ w → ∃ Hh P, Inv w rows p (eS le rows p).1 (eS le rows p).2 Hh P
  | 0, _ => ⟨[], [], Inv.init hw⟩
  | p + 1, hp => by
    obtain ⟨Hh, P, I⟩ := inv hle hw p (by omega)
    show ∃ Hh P, Inv w rows (p + 1) (stp le p (eS le rows p)).1 (stp le p (eS le rows p)).2 Hh P
    cases e : hix (eS le rows p).1 p with
    | none =>
      rw [stp_none e]
      exact ⟨Hh, P, I.none e⟩
    | some h =>
      rw [stp_some e]
      obtain ⟨x, J⟩ := I.some hle (by omega) e
      exact ⟨_, _, J⟩
theorem Inv.ind {w p : Nat} {rows left found Hh : List (List Int)} {P : List Nat} (I : Inv w rows p left found Hh P) (hp : p ≤ w) : Ind found.length found.length fun k j => row Hh k (P.getD j 0) := by
  refine ind_of (A := fun k j => row found k (P.getD j 0)) ?_ fun i hi => ?_
  · exact Ech.ind (lead := fun i => i) ⟨fun i hi => hi, fun i hi => I.nz i hi, fun i k hi hk hne => I.z i k hi hk hne⟩
  · obtain ⟨c, hc, a, ha⟩ := I.ff _ (mem_row hi)
    rw [I.hl] at ha
    exact ⟨c, hc, a, fun j hj => ha _ (Nat.lt_of_lt_of_le (I.pp j hj) hp)⟩
theorem co_bd {rows : List (List Int)} {M : Nat} (hM : ∀ r ∈ rows, ∀ x ∈ r, x.natAbs ≤ M) {r : List Int} (hr : r ∈ rows) (j : Nat) : (co r j).natAbs ≤ M := by
  by_cases h : j < r.length
  · exact hM r hr _ (co_memE h)
  · rw [co_far (by omega)]
    exact Nat.zero_le _
theorem Inv.bd {w p M : Nat} {rows left found Hh : List (List Int)} {P : List Nat} (I : Inv w rows p left found Hh P) (hp : p ≤ w) (hM : ∀ r ∈ rows, ∀ x ∈ r, x.natAbs ≤ M) (hc : left.length + found.length = rows.length) :
    ∀ r, r ∈ left ∨ r ∈ found → ∀ j, (co r j).natAbs ≤ BdE rows.length M := fun r hr j => by
  by_cases hj : j < w
  · rcases I.rd r hr with hv | hv
    · rcases hr with hr | hr
      · obtain ⟨x, hx, hs⟩ := I.lf r hr
        have hp1 := List.length_pos_of_mem hr
        refine Nat.le_trans (bd_left (r := found.length) (B := row (Hh ++ [x])) (P := fun k => P.getD k 0) (I.ll r (.inl hr)) hv (fun i hi j => ?_) (fun k hk => Nat.lt_of_lt_of_le (I.pp k hk) hp) (fun a ha => I.ind hp a fun k hk => ?_) ?_ (fun k hk => I.lz r hr _ (I.pp k hk)) j hj) (Bd_mono (by omega))
        · rw [row_app, I.hl]
          by_cases c : i < found.length
          · rw [if_pos c]
            exact co_bd hM (I.hr _ (mem_row (by rw [I.hl]; exact c))) j
          · rw [if_neg c, if_pos (by omega)]
            exact co_bd hM hx j
        · rw [← ha k hk]
          exact S_congr fun i hi => by
            show _ = a i * row (Hh ++ [x]) i (P.getD k 0)
            rw [row_app, I.hl, if_pos hi]
        · unfold SpM at hs
          rw [List.length_append, I.hl] at hs
          exact hs
      · obtain ⟨i0, hi0, e⟩ := row_mem hr
        obtain ⟨m, hm⟩ : ∃ m, found.length = m + 1 := ⟨found.length - 1, by omega⟩
        have hI := I.ind hp
        have hs := I.ff r hr
        unfold SpM at hs
        rw [I.hl] at hs
        rw [hm] at hI hs hi0
        refine Nat.le_trans (bd_found (B := row Hh) (P := fun k => P.getD k 0) (i0 := i0) (I.ll r (.inr hr)) hv (fun i hi j => co_bd hM (I.hr _ (mem_row (by rw [I.hl, hm]; exact hi))) j) (fun k hk => Nat.lt_of_lt_of_le (I.pp k (by omega)) hp) hI hs hi0 (fun k hk hne => ?_) j hj) (Bd_mono (by omega))
        rw [← e]
        exact I.z k i0 (by omega) (by omega) (Ne.symm hne)
    · exact Nat.le_trans (co_bd hM hv j) (Bd_le (List.length_pos_of_mem hv))
  · rw [co_far (by rw [I.ll r hr]; omega)]
    exact Nat.zero_le _
theorem quot_le {c q x : Int} (h : c * q = x) (hc : c ≠ 0) : q.natAbs ≤ x.natAbs := by
  rw [← h, Int.natAbs_mul]
  exact Nat.le_mul_of_pos_left _ (by omega)
theorem cdiv_of {x c : Int} (hc : c ≠ 0) (hd : c ∣ x) (hb : x.natAbs < 2 ^ 4470) : CDivQ x c := by
  have e := fdiv_ex hd
  refine CDivQ.exact hc (q := x.fdiv c) (by rw [Int.mul_comm]; exact e.symm) ?_
  have := quot_le e hc
  generalize 2 ^ 4470 = Z at hb ⊢
  omega
theorem log_lt {n k : Nat} (h : n < 2 ^ k) (hk : 0 < k) : n.log2 < k := by
  by_cases h0 : n = 0
  · rw [h0, Nat.log2_zero]
    exact hk
  · exact (Nat.log2_lt h0).mpr h
theorem cmul_of {a b : Int} (h1 : a.natAbs < 2 ^ 4470) (h2 : b.natAbs < 2 ^ 4470) : CMulW a b := by
  have := log_lt h1 (by decide)
  have := log_lt h2 (by decide)
  unfold CMulW
  omega
theorem divOk_of {l : List Int} (h : ∀ j, (co l j).natAbs < 2 ^ 4470) : DivOk l := fun h0 x hx => by
  obtain ⟨k, _, e⟩ := mem_co hx
  refine cdiv_of (by omega) (gl_dvdI hx) ?_
  rw [← e]
  exact h k
theorem lessOk_of {r hd : List Int} {p : Nat} (hp : co hd p ≠ 0) (hl : r.length = hd.length) (h1 : ∀ j, (co r j).natAbs < 2 ^ 4470) (h2 : ∀ j, (co hd j).natAbs < 2 ^ 4470) (h3 : co r p ≠ 0 → ∀ j, (co (lless r hd p) j).natAbs < 2 ^ 4470) : LessOk r hd p := by
  have g0 := gcd_ne (b := co r p) hp
  have d1 : ((Nat.gcd (co hd p).natAbs (co r p).natAbs : Nat) : Int) ∣ co hd p := Int.ofNat_dvd_left.mpr (Nat.gcd_dvd_left ..)
  have d2 : ((Nat.gcd (co hd p).natAbs (co r p).natAbs : Nat) : Int) ∣ co r p := Int.ofNat_dvd_left.mpr (Nat.gcd_dvd_right ..)
  have q1 := quot_le (fdiv_ex d1) g0
  have q2 := quot_le (fdiv_ex d2) g0
  refine ⟨cdiv_of g0 d1 (h2 p), cdiv_of g0 d2 (h1 p), fun k _ => cmul_of (h1 k) (Nat.lt_of_le_of_lt q1 (h2 p)), fun k _ => cmul_of (Nat.lt_of_le_of_lt q2 (h1 p)) (h2 k), ?_⟩
  by_cases c : co r p = 0
  · refine divOk_of fun j => ?_
    have e := lf_lin (row := r) hp hl j
    rw [c, Int.zero_mul, Int.sub_zero] at e
    have e2 : (Nat.gcd (co hd p).natAbs (0 : Int).natAbs) = (co hd p).natAbs := Nat.gcd_zero_right _
    rw [e2] at e
    have e3 : (co hd p).natAbs * (co (lf r hd p) j).natAbs = (co hd p).natAbs * (co r j).natAbs := by
      have := congrArg Int.natAbs e
      rwa [Int.natAbs_mul, Int.natAbs_mul, Int.natAbs_natCast] at this
    rw [Nat.eq_of_mul_eq_mul_left (by omega) e3]
    exact h1 j
  · intro h0 x hx
    obtain ⟨k, _, e⟩ := mem_co hx
    have q := h3 c k
    unfold lless at q
    by_cases d : 1 < gl (lf r hd p)
    · rw [if_pos d] at q
      have e1 := dv_ex h0 k
      rw [e] at e1
      exact CDivQ.exact (q := co (dv (lf r hd p) (gl (lf r hd p))) k) (by omega) (by rw [Int.mul_comm]; exact e1.symm) q
    · rw [if_neg d, e] at q
      exact cdiv_of (by omega) (gl_dvdI hx) q
theorem eok {le : List Int → List Int → Nat → List Int} (hle : LeP le) (hl2 : ∀ r hd p, co r p ≠ 0 → le r hd p = lless r hd p) {w M : Nat} {rows : List (List Int)} (hw : ∀ r ∈ rows, r.length = w) (hM : ∀ r ∈ rows, ∀ x ∈ r, x.natAbs ≤ M) (hb : BdE rows.length M < 2 ^ 4470) : EOk le rows w := by
  have bd : ∀ p, p ≤ w → ∀ r, r ∈ (eS le rows p).1 ∨ r ∈ (eS le rows p).2 → ∀ j, (co r j).natAbs < 2 ^ 4470 := fun p hp r hr j => by
    obtain ⟨Hh, P, I⟩ := inv hle hw p hp
    exact Nat.lt_of_le_of_lt (I.bd hp hM (eS_cnt le rows p) r hr j) hb
  refine ⟨fun r hr => divOk_of (bd w (Nat.le_refl _) r (.inr hr)), fun p hp h e r hr => ?_⟩
  obtain ⟨hh, hd⟩ := hix_some e
  obtain ⟨Hh, P, I⟩ := inv hle hw p (by omega)
  have hm := mem_row hh
  have hr1 : r ∈ (eS le rows p).1 ∨ r ∈ (eS le rows p).2 := hr.imp List.mem_of_mem_eraseIdx id
  refine lessOk_of hd (by rw [I.ll r hr1, I.ll _ (.inl hm)]) (bd p (by omega) r hr1) (bd p (by omega) _ (.inl hm)) fun c => ?_
  rw [← hl2 _ _ _ c]
  refine bd (p + 1) hp _ ?_
  show _ ∈ (stp le p (eS le rows p)).1 ∨ _ ∈ (stp le p (eS le rows p)).2
  rw [stp_some e]
  rcases hr with hr | hr
  · exact .inl (List.mem_map.mpr ⟨r, hr, rfl⟩)
  · exact .inr (List.mem_append.mpr (.inl (List.mem_map.mpr ⟨r, hr, rfl⟩)))
theorem eokP {w M : Nat} {rows : List (List Int)} (hw : ∀ r ∈ rows, r.length = w) (hM : ∀ r ∈ rows, ∀ x ∈ r, x.natAbs ≤ M) (hb : BdE rows.length M < 2 ^ 4470) : EOk less rows w := eok lePP (fun _ _ _ c => less_eq c) hw hM hb
theorem eokL {w M : Nat} {rows : List (List Int)} (hw : ∀ r ∈ rows, r.length = w) (hM : ∀ r ∈ rows, ∀ x ∈ r, x.natAbs ≤ M) (hb : BdE rows.length M < 2 ^ 4470) : EOk lless rows w := eok lePL (fun _ _ _ _ => rfl) hw hM hb
theorem gl_mul (c : Int) : ∀ (l : List Int) (a : Nat), (l.map (c * ·)).foldl (fun a x => Nat.gcd a x.natAbs) (c.natAbs * a) = c.natAbs * l.foldl (fun a x => Nat.gcd a x.natAbs) a
  | [], _ => rfl
  | x :: l, a => by
    rw [List.map_cons, List.foldl_cons, List.foldl_cons, Int.natAbs_mul, Nat.gcd_mul_left]
    exact gl_mul c l _
theorem gl_scale (c : Int) (l : List Int) : gl (l.map (c * ·)) = c.natAbs * gl l := gl_mul c l 0
theorem co_scale (c : Int) (l : List Int) (j : Nat) : co (l.map (c * ·)) j = c * co l j := by
  by_cases h : j < l.length
  · rw [co_get (by rw [List.length_map]; exact h), co_get h, List.getElem_map]
  · rw [co_far (by rw [List.length_map]; omega), co_far (by omega), Int.mul_zero]
theorem gl0_of {l : List Int} (h : ∀ j, co l j = 0) : gl l = 0 := Nat.eq_zero_of_zero_dvd (dvd_glc fun k _ => by rw [h k]; exact Nat.dvd_refl _)
theorem ld_char {l : List Int} {k : Nat} (h : co l k ≠ 0) (hz : ∀ j, j < k → co l j = 0) : ld l = k := by
  have hk : k < l.length := by
    refine Classical.byContradiction fun c => h (co_far (by omega))
  unfold ld
  refine (List.findIdx_eq hk).mpr ⟨?_, fun j hj => ?_⟩
  · rw [← co_get hk]
    simpa using h
  · have := hz j hj
    rw [co_get (by omega)] at this
    simpa using this
theorem fo_ld : ∀ {l : List Int}, (∃ k, co l k ≠ 0) → foE l = co l (ld l) ∧ co l (ld l) ≠ 0 ∧ ∀ j, j < ld l → co l j = 0
  | [], ⟨k, h⟩ => absurd (co_far (Nat.zero_le _)) h
  | x :: l, ⟨k, h⟩ => by
    by_cases c : x = 0
    · have hk : ∃ k, co l k ≠ 0 := by
        cases k with
        | zero => exact absurd c h
        | succ k => exact ⟨k, h⟩
      obtain ⟨h1, h2, h3⟩ := fo_ld hk
      have e1 : foE (x :: l) = foE l := by
        unfold foE
        rw [List.find?_cons_of_neg (by simp [c])]
      have e2 : ld (x :: l) = ld l + 1 := ld_char (l := x :: l) (k := ld l + 1) h2 fun j hj => by
        cases j with
        | zero => exact c
        | succ j => exact h3 j (by omega)
      rw [e1, e2]
      refine ⟨h1, h2, fun j hj => ?_⟩
      cases j with
      | zero => exact c
      | succ j => exact h3 j (by omega)
    · have e1 : foE (x :: l) = x := by
        unfold foE
        rw [List.find?_cons_of_pos (by simp [c])]
        rfl
      have e2 : ld (x :: l) = 0 := ld_char (l := x :: l) (k := 0) c fun j hj => absurd hj (Nat.not_lt_zero _)
      rw [e1, e2]
      exact ⟨rfl, c, fun j hj => absurd hj (Nat.not_lt_zero _)⟩
def pf (l : List Int) : Int := if gl l = 0 then 1 else if 0 < foE l then (gl l : Int) else -(gl l : Int)
theorem pf_ne (l : List Int) : pf l ≠ 0 := by
  unfold pf
  split
  · decide
  · split <;> omega
theorem prim_ex (l : List Int) (j : Nat) : pf l * co (primE l) j = co l j := by
  unfold pf primE
  by_cases c : gl l = 0
  · rw [if_pos c, if_pos c, Int.one_mul]
  · rw [if_neg c, if_neg c, co_dv]
    refine fdiv_ex ?_
    have := Int.ofNat_dvd_left.mpr (gl_dvdc l j)
    split
    · exact this
    · exact Int.neg_dvd.mpr this
theorem prim_le (l : List Int) (j : Nat) : (co (primE l) j).natAbs ≤ (co l j).natAbs := quot_le (prim_ex l j) (pf_ne l)
def Pq (w : Nat) (r r' : List Int) : Prop := r.length = w ∧ r'.length = w ∧ ∃ α β : Int, α ≠ 0 ∧ β ≠ 0 ∧ ∀ j, α * co r j = β * co r' j
theorem Pq.zero {w : Nat} {r r' : List Int} (h : Pq w r r') (j : Nat) : co r j = 0 ↔ co r' j = 0 := by
  obtain ⟨_, _, α, β, ha, hb, e⟩ := h
  have := e j
  constructor <;> intro z <;> rw [z, Int.mul_zero] at this
  · exact (Int.mul_eq_zero.mp this.symm).resolve_left hb
  · exact (Int.mul_eq_zero.mp this).resolve_left ha
theorem sq_pos {a : Int} (h : a ≠ 0) : 0 < a * a := by
  rcases Int.lt_or_gt_of_ne h with z | z
  · exact Int.mul_pos_of_neg_of_neg z z
  · exact Int.mul_pos z z
theorem prim_pq {w : Nat} {r r' : List Int} (h : Pq w r r') : primE r = primE r' := by
  have hz := h.zero
  obtain ⟨hl, hl', α, β, ha, hb, e⟩ := h
  by_cases c : gl r = 0
  · have c' : gl r' = 0 := gl0_of fun j => (hz j).mp (gl_zero c j)
    unfold primE
    rw [if_pos c, if_pos c']
    exact co_inj (hl.trans hl'.symm) fun j => by rw [gl_zero c j, gl_zero c' j]
  · have c' : gl r' ≠ 0 := fun z => c (gl0_of fun j => (hz j).mpr (gl_zero z j))
    have ex : ∀ l : List Int, gl l ≠ 0 → ∃ k, co l k ≠ 0 := fun l hl => Classical.byContradiction fun z => hl (gl0_of fun j => Classical.byContradiction fun q => z ⟨j, q⟩)
    obtain ⟨f1, f2, f3⟩ := fo_ld (ex r c)
    obtain ⟨g1, g2, g3⟩ := fo_ld (ex r' c')
    have el : ld r' = ld r := ld_char (fun z => f2 ((hz _).mpr z)) fun j hj => (hz j).mp (f3 j hj)
    have e0 : α * foE r = β * foE r' := by rw [f1, g1, el]; exact e _
    have eg : α.natAbs * gl r = β.natAbs * gl r' := by
      rw [← gl_scale, ← gl_scale]
      refine congrArg gl (co_inj (by rw [List.length_map, List.length_map, hl, hl']) fun j => ?_)
      rw [co_scale, co_scale]
      exact e j
    have s1 : 0 < pf r * foE r := by
      unfold pf
      rw [if_neg c]
      split
      · exact Int.mul_pos (by omega) ‹_›
      · exact Int.mul_pos_of_neg_of_neg (by omega) (by omega)
    have s2 : 0 < pf r' * foE r' := by
      unfold pf
      rw [if_neg c']
      split
      · exact Int.mul_pos (by omega) ‹_›
      · exact Int.mul_pos_of_neg_of_neg (by omega) (by omega)
    have n1 : (α * pf r).natAbs = (β * pf r').natAbs := by
      have q : ∀ l, gl l ≠ 0 → (pf l).natAbs = gl l := fun l hl => by
        unfold pf
        rw [if_neg hl]
        split <;> omega
      rw [Int.natAbs_mul, Int.natAbs_mul, q r c, q r' c', eg]
    have z0 : α * foE r ≠ 0 := Int.mul_ne_zero ha (by omega)
    have t1 : 0 < α * pf r * (α * foE r) := by
      have : α * pf r * (α * foE r) = α * α * (pf r * foE r) := by grind
      rw [this]
      exact Int.mul_pos (sq_pos ha) s1
    have t2 : 0 < β * pf r' * (α * foE r) := by
      rw [e0]
      have : β * pf r' * (β * foE r') = β * β * (pf r' * foE r') := by grind
      rw [this]
      exact Int.mul_pos (sq_pos hb) s2
    have key : α * pf r = β * pf r' := by
      rcases Int.natAbs_eq_natAbs_iff.mp n1 with q | q
      · exact q
      · exfalso
        rw [q, Int.neg_mul] at t1
        omega
    refine co_inj (by rw [primE_len, primE_len, hl, hl']) fun j => ?_
    have a1 := prim_ex r j
    have a2 := prim_ex r' j
    have q : α * pf r * co (primE r) j = α * pf r * co (primE r') j := by
      rw [Int.mul_assoc, a1, e j, ← a2, ← Int.mul_assoc, key]
    exact Int.eq_of_mul_eq_mul_left (Int.mul_ne_zero ha (pf_ne r)) q
def PL (w : Nat) : List (List Int) → List (List Int) → Prop
  | [], [] => True
  | a :: as, b :: bs => Pq w a b ∧ PL w as bs
  | _, _ => False
theorem PL.hix {w p : Nat} : ∀ {A B : List (List Int)}, PL w A B → hix A p = hix B p
  | [], [], _ => rfl
  | a :: as, b :: bs, h => by
    have ih := PL.hix (p := p) h.2
    unfold K65.hix at ih ⊢
    rw [List.findIdx?_cons, List.findIdx?_cons, ih]
    have : (co a p != 0) = (co b p != 0) := by
      by_cases c : co a p = 0
      · rw [c, (h.1.zero p).mp c]
      · have c2 : co b p ≠ 0 := fun z => c ((h.1.zero p).mpr z)
        rw [bne_iff_ne.mpr c, bne_iff_ne.mpr c2]
    rw [this]
theorem PL.get {w : Nat} : ∀ {A B : List (List Int)} {k : Nat}, PL w A B → k < A.length → Pq w (A.getD k []) (B.getD k [])
  | [], [], _, _, hk => absurd hk (Nat.not_lt_zero _)
  | a :: as, b :: bs, 0, h, _ => h.1
  | a :: as, b :: bs, k + 1, h, hk => PL.get (k := k) h.2 (Nat.lt_of_succ_lt_succ hk)
theorem PL.erase {w : Nat} : ∀ {A B : List (List Int)} (k : Nat), PL w A B → PL w (A.eraseIdx k) (B.eraseIdx k)
  | [], [], _, _ => True.intro
  | a :: as, b :: bs, 0, h => h.2
  | a :: as, b :: bs, k + 1, h => ⟨h.1, PL.erase k h.2⟩
theorem PL.map {w : Nat} {f g : List Int → List Int} (hf : ∀ a b, Pq w a b → Pq w (f a) (g b)) : ∀ {A B : List (List Int)}, PL w A B → PL w (A.map f) (B.map g)
  | [], [], _ => True.intro
  | a :: as, b :: bs, h => ⟨hf _ _ h.1, PL.map hf h.2⟩
theorem PL.app {w : Nat} {a b : List Int} (h : Pq w a b) : ∀ {A B : List (List Int)}, PL w A B → PL w (A ++ [a]) (B ++ [b])
  | [], [], _ => ⟨h, True.intro⟩
  | a :: as, b :: bs, g => ⟨g.1, PL.app h g.2⟩
theorem PL.rf {w : Nat} : ∀ {A : List (List Int)}, (∀ a ∈ A, a.length = w) → PL w A A
  | [], _ => True.intro
  | a :: as, h => ⟨⟨h a List.mem_cons_self, h a List.mem_cons_self, 1, 1, by decide, by decide, fun _ => rfl⟩, PL.rf fun b hb => h b (List.mem_cons_of_mem _ hb)⟩
theorem PL.primE {w : Nat} : ∀ {A B : List (List Int)}, PL w A B → A.map primE = B.map primE
  | [], [], _ => rfl
  | a :: as, b :: bs, h => by
    rw [List.map_cons, List.map_cons, prim_pq h.1, PL.primE h.2]
theorem less_pq {w p : Nat} {r r' hd hd' : List Int} (h : Pq w r r') (g : Pq w hd hd') (hp : co hd p ≠ 0) : Pq w (less r hd p) (lless r' hd' p) := by
  have hp' : co hd' p ≠ 0 := fun z => hp ((g.zero p).mpr z)
  obtain ⟨h1, h2, α, β, ha, hb, e⟩ := h
  obtain ⟨g1, g2, γ, δ, hc, hd0, f⟩ := g
  obtain ⟨c, c0, q⟩ := lePP.lin r hd p hp (h1.trans g1.symm)
  obtain ⟨c', c0', q'⟩ := lePL.lin r' hd' p hp' (h2.trans g2.symm)
  refine ⟨by rw [less_len, h1], by rw [lless_len, h2], α * γ * c, β * δ * c', Int.mul_ne_zero (Int.mul_ne_zero ha hc) c0, Int.mul_ne_zero (Int.mul_ne_zero hb hd0) c0', fun j => ?_⟩
  rw [Int.mul_assoc, q j, Int.mul_assoc (β * δ), q' j]
  have e1 := e j
  have e2 := e p
  have f1 := f j
  have f2 := f p
  have : α * γ * (co hd p * co r j - co r p * co hd j) = (γ * co hd p) * (α * co r j) - (α * co r p) * (γ * co hd j) := by grind
  rw [this, f2, e1, e2, f1]
  grind
theorem eS_pq {w : Nat} {rows : List (List Int)} (hw : ∀ r ∈ rows, r.length = w) : ∀ p, PL w (eS less rows p).1 (eS lless rows p).1 ∧ PL w (eS less rows p).2 (eS lless rows p).2
  | 0 => ⟨PL.rf hw, True.intro⟩
  | p + 1 => by
    obtain ⟨h1, h2⟩ := eS_pq hw p
    show PL w (stp less p (eS less rows p)).1 (stp lless p (eS lless rows p)).1 ∧ PL w (stp less p (eS less rows p)).2 (stp lless p (eS lless rows p)).2
    cases e : hix (eS less rows p).1 p with
    | none =>
      rw [stp_none e, stp_none (by rw [← h1.hix]; exact e)]
      exact ⟨h1, h2⟩
    | some h =>
      rw [stp_some e, stp_some (by rw [← h1.hix]; exact e)]
      obtain ⟨hh, hd⟩ := hix_some e
      have g := h1.get hh
      exact ⟨(h1.erase h).map fun a b q => less_pq q g hd, PL.app g (h2.map fun a b q => less_pq q g hd)⟩
theorem ech_eq {w : Nat} {rows : List (List Int)} (hw : ∀ r ∈ rows, r.length = w) : ech less rows w = ech lless rows w := (eS_pq hw w).2.primE
structure Told (w M : Nat) (rows T : List (List Int)) : Prop where
  len : ∀ t ∈ T, t.length = w
  lt : ∀ t ∈ T, ld t < w
  nz : ∀ t ∈ T, co t (ld t) ≠ 0
  z : ∀ i k, i < T.length → k < T.length → k ≠ i → row T k (ld (T.getD i [])) = 0
  base : Base w rows.length (row rows) T.length (row T)
  bd : ∀ t ∈ T, ∀ j, (co t j).natAbs ≤ BdE T.length M
theorem getD_map {A : List (List Int)} {f : List Int → List Int} {k : Nat} (h : k < A.length) : (A.map f).getD k [] = f (A.getD k []) := by
  rw [List.getD_eq_getElem?_getD, List.getD_eq_getElem?_getD, List.getElem?_map, List.getElem?_eq_getElem h]
  rfl
theorem told {le : List Int → List Int → Nat → List Int} (hle : LeP le) {w M : Nat} {rows : List (List Int)} (hw : ∀ r ∈ rows, r.length = w) (hM : ∀ r ∈ rows, ∀ x ∈ r, x.natAbs ≤ M) : Told w M rows (ech le rows w) := by
  obtain ⟨Hh, P, I⟩ := inv hle hw w (Nat.le_refl _)
  unfold ech
  generalize (eS le rows w).1 = left at I
  generalize (eS le rows w).2 = found at I
  have hz : ∀ (r : List Int) (j : Nat), co (primE r) j = 0 ↔ co r j = 0 := fun r j => by
    have := prim_ex r j
    constructor <;> intro z <;> rw [z] at this
    · rw [Int.mul_zero] at this
      exact this.symm
    · exact (Int.mul_eq_zero.mp this).resolve_left (pf_ne r)
  have hld : ∀ k, k < found.length → ld (primE (found.getD k [])) = P.getD k 0 := fun k hk => ld_char (fun z => I.nz k hk ((hz _ _).mp z)) fun j hj => (hz _ _).mpr (I.be k hk j hj)
  have mem : ∀ t ∈ found.map primE, ∃ k, k < found.length ∧ t = primE (found.getD k []) := fun t ht => by
    obtain ⟨r, hr, rfl⟩ := List.mem_map.mp ht
    obtain ⟨k, hk, e⟩ := List.mem_iff_getElem.mp hr
    exact ⟨k, hk, by rw [List.getD_eq_getElem?_getD, List.getElem?_eq_getElem hk, e]; rfl⟩
  have z' : ∀ i k, i < (found.map primE).length → k < (found.map primE).length → k ≠ i → row (found.map primE) k (ld ((found.map primE).getD i [])) = 0 := fun i k hi hk hne => by
    rw [List.length_map] at hi hk
    rw [row_map hk, getD_map hi, hld i hi]
    exact (hz _ _).mpr (I.z i k hi hk hne)
  have nz' : ∀ k, k < (found.map primE).length → row (found.map primE) k (ld ((found.map primE).getD k [])) ≠ 0 := fun k hk => by
    rw [List.length_map] at hk
    rw [row_map hk, getD_map hk, hld k hk]
    exact fun z => I.nz k hk ((hz _ _).mp z)
  have lt' : ∀ k, k < (found.map primE).length → ld ((found.map primE).getD k []) < w := fun k hk => by
    rw [List.length_map] at hk
    rw [getD_map hk, hld k hk]
    exact I.pp k hk
  refine ⟨fun t ht => ?_, fun t ht => ?_, fun t ht => ?_, z', ⟨?_, fun k hk => ?_, fun i hi => ?_⟩, fun t ht j => ?_⟩
  · obtain ⟨k, hk, rfl⟩ := mem t ht
    rw [primE_len]
    exact I.ll _ (.inr (mem_row hk))
  · obtain ⟨k, hk, rfl⟩ := mem t ht
    rw [hld k hk]
    exact I.pp k hk
  · obtain ⟨k, hk, rfl⟩ := mem t ht
    rw [hld k hk]
    exact fun z => I.nz k hk ((hz _ _).mp z)
  · exact Ech.ind (lead := fun k => ld ((found.map primE).getD k [])) ⟨lt', nz', z'⟩
  · rw [List.length_map] at hk
    rw [row_map hk]
    have h1 : SpM w rows (found.getD k []) := (I.ff _ (mem_row hk)).trans fun x hx => SpM.own (I.hr x hx)
    exact SpM.mul (c := pf (found.getD k [])) (α := 1) (pf_ne _) h1 fun j _ => by rw [prim_ex, Int.one_mul]
  · refine (I.rv _ (mem_row hi)).trans fun x hx => ?_
    rcases List.mem_append.mp hx with hx | hx
    · exact SpM.mul (c := 1) (α := pf x) (by decide) (SpM.own (List.mem_map.mpr ⟨x, hx, rfl⟩)) fun j _ => by rw [prim_ex, Int.one_mul]
    · exact SpM.zero (I.lz x hx)
  · obtain ⟨k, hk, rfl⟩ := mem t ht
    rw [List.length_map]
    refine Nat.le_trans (prim_le _ j) ?_
    have hr := mem_row hk
    generalize hR : found.getD k [] = r at hr
    by_cases hj : j < w
    · rcases I.rd r (.inr hr) with hv | hv
      · obtain ⟨m, hm⟩ : ∃ m, found.length = m + 1 := ⟨found.length - 1, by omega⟩
        have hI := I.ind (Nat.le_refl _)
        have hs := I.ff r hr
        unfold SpM at hs
        rw [I.hl] at hs
        have hk0 := hk
        rw [hm] at hI hs hk ⊢
        refine bd_found (B := row Hh) (P := fun k => P.getD k 0) (i0 := k) (I.ll r (.inr hr)) hv (fun i hi j => co_bd hM (I.hr _ (mem_row (by rw [I.hl, hm]; exact hi))) j) (fun k hk => I.pp k (by omega)) hI hs hk (fun i hi hne => ?_) j hj
        rw [← hR]
        exact I.z i k (by omega) hk0 (Ne.symm hne)
      · exact Nat.le_trans (co_bd hM hv j) (Bd_le (by omega))
    · rw [co_far (by rw [I.ll r (.inr hr)]; omega)]
      exact Nat.zero_le _
abbrev le0 (t : List Int) : Int := co t (ld t)
def wst (a : Int) (t : List Int) : Int := a * (le0 t).fdiv (Nat.gcd a.natAbs (le0 t).natAbs : Nat)
def whl (T : List (List Int)) : Int := T.foldl wst 1
theorem whl_snoc (T : List (List Int)) (t : List Int) : whl (T ++ [t]) = wst (whl T) t := by
  unfold whl
  rw [List.foldl_append]
  rfl
def frees (T : List (List Int)) (w : Nat) : List Nat := (List.range w).filter fun p => !(T.map ld).contains p
def kst (W : Int) (f : Nat) (o : List Int) (t : List Int) : List Int := o.set (ld t) (-(W.fdiv (le0 t)) * co t f)
def lst' (W : Int) (f : Nat) (o : List Int) (t : List Int) : List Int := o.set (ld t) (0 - (W * co t f).fdiv (le0 t))
def k0 (W : Int) (w f : Nat) : List Int := (List.replicate w (0 : Int)).set f W
def kone (T : List (List Int)) (w f : Nat) : List Int := T.foldl (kst (whl T) f) (k0 (whl T) w f)
def lkone (T : List (List Int)) (w f : Nat) : List Int := T.foldl (lst' (whl T) f) (k0 (whl T) w f)
theorem kst_len (W : Int) (f : Nat) (o t : List Int) : (kst W f o t).length = o.length := List.length_set ..
theorem lst_len (W : Int) (f : Nat) (o t : List Int) : (lst' W f o t).length = o.length := List.length_set ..
theorem k0_len (W : Int) (w f : Nat) : (k0 W w f).length = w := by
  unfold k0
  rw [List.length_set, List.length_replicate]
theorem fold_len {g : List Int → List Int → List Int} (h : ∀ o t, (g o t).length = o.length) : ∀ (T : List (List Int)) (o : List Int), (T.foldl g o).length = o.length
  | [], _ => rfl
  | t :: T, o => by
    rw [List.foldl_cons, fold_len h T, h]
theorem kone_len (T : List (List Int)) (w f : Nat) : (kone T w f).length = w := by
  unfold kone
  rw [fold_len (kst_len _ _), k0_len]
theorem lkone_len (T : List (List Int)) (w f : Nat) : (lkone T w f).length = w := by
  unfold lkone
  rw [fold_len (lst_len _ _), k0_len]
def kvs (T : List (List Int)) (w : Nat) : List (List Int) := (frees T w).map (kone T w)
def lkvs (T : List (List Int)) (w : Nat) : List (List Int) := (frees T w).map (lkone T w)
theorem frees_len (T : List (List Int)) (w : Nat) : (frees T w).length ≤ w := by
  have := List.length_filter_le (fun p => !(T.map ld).contains p) (List.range w)
  rwa [List.length_range] at this
theorem frees_lt {T : List (List Int)} {w f : Nat} (h : f ∈ frees T w) : f < w := List.mem_range.mp (List.mem_filter.mp h).1
structure KOk (T : List (List Int)) : Prop where
  c1 : ∀ A t B, T = A ++ t :: B → CDivQ (le0 t) (Nat.gcd (whl A).natAbs (le0 t).natAbs : Nat)
  m1 : ∀ A t B, T = A ++ t :: B → CMulW (whl A) ((le0 t).fdiv (Nat.gcd (whl A).natAbs (le0 t).natAbs : Nat))
  c2 : ∀ t ∈ T, CDivQ (whl T) (le0 t)
  m2 : ∀ t ∈ T, ∀ f, CMulW (-((whl T).fdiv (le0 t))) (co t f)
  m3 : ∀ t ∈ T, ∀ f, CMulW (whl T) (co t f)
  c3 : ∀ t ∈ T, ∀ f, CDivQ (whl T * co t f) (le0 t)
theorem wst_dvd (a : Int) (t : List Int) : a ∣ wst a t := ⟨_, rfl⟩
theorem wst_lead (a : Int) (t : List Int) : le0 t ∣ wst a t := by
  unfold wst
  have d1 : ((Nat.gcd a.natAbs (le0 t).natAbs : Nat) : Int) ∣ a := Int.ofNat_dvd_left.mpr (Nat.gcd_dvd_left ..)
  have d2 : ((Nat.gcd a.natAbs (le0 t).natAbs : Nat) : Int) ∣ le0 t := Int.ofNat_dvd_left.mpr (Nat.gcd_dvd_right ..)
  have e2 := fdiv_ex d2
  obtain ⟨q, hq⟩ := d1
  generalize ((Nat.gcd a.natAbs (le0 t).natAbs : Nat) : Int) = g at *
  refine ⟨q, ?_⟩
  have : a * (le0 t).fdiv g = g * (le0 t).fdiv g * q := by grind
  rw [this, e2]
theorem gcd_ne2 {a b : Int} (h : b ≠ 0) : ((Nat.gcd a.natAbs b.natAbs : Nat) : Int) ≠ 0 := by
  have := Nat.gcd_pos_of_pos_right a.natAbs (show 0 < b.natAbs by omega)
  omega
theorem gq_le {a : Int} {t : List Int} (h : le0 t ≠ 0) : ((le0 t).fdiv (Nat.gcd a.natAbs (le0 t).natAbs : Nat)).natAbs ≤ (le0 t).natAbs :=
  quot_le (fdiv_ex (Int.ofNat_dvd_left.mpr (Nat.gcd_dvd_right ..))) (gcd_ne2 h)
theorem gq_ne {a : Int} {t : List Int} (h : le0 t ≠ 0) : (le0 t).fdiv (Nat.gcd a.natAbs (le0 t).natAbs : Nat) ≠ 0 := fun z => by
  have e := fdiv_ex (Int.ofNat_dvd_left.mpr (Nat.gcd_dvd_right a.natAbs (le0 t).natAbs) : ((Nat.gcd a.natAbs (le0 t).natAbs : Nat) : Int) ∣ le0 t)
  rw [z, Int.mul_zero] at e
  exact h e.symm
theorem wst_le {a : Int} {t : List Int} (h : le0 t ≠ 0) : (wst a t).natAbs ≤ a.natAbs * (le0 t).natAbs := by
  unfold wst
  rw [Int.natAbs_mul]
  exact Nat.mul_le_mul_left _ (gq_le h)
theorem wst_ne {a : Int} {t : List Int} (ha : a ≠ 0) (h : le0 t ≠ 0) : wst a t ≠ 0 := Int.mul_ne_zero ha (gq_ne h)
theorem whl_aux {B : Nat} : ∀ (T : List (List Int)) (a : Int), a ≠ 0 → (∀ t ∈ T, le0 t ≠ 0 ∧ (le0 t).natAbs ≤ B) → T.foldl wst a ≠ 0 ∧ a ∣ T.foldl wst a ∧ (∀ t ∈ T, le0 t ∣ T.foldl wst a) ∧ (T.foldl wst a).natAbs ≤ a.natAbs * B ^ T.length
  | [], a, ha, _ => ⟨ha, Int.dvd_refl _, fun t ht => absurd ht List.not_mem_nil, by show a.natAbs ≤ a.natAbs * 1; omega⟩
  | t :: T, a, ha, h => by
    obtain ⟨ht, hb⟩ := h t List.mem_cons_self
    obtain ⟨h1, h2, h3, h4⟩ := whl_aux T (wst a t) (wst_ne ha ht) fun u hu => h u (List.mem_cons_of_mem _ hu)
    rw [List.foldl_cons]
    refine ⟨h1, Int.dvd_trans (wst_dvd a t) h2, fun u hu => ?_, ?_⟩
    · rcases List.mem_cons.mp hu with rfl | hu
      · exact Int.dvd_trans (wst_lead a u) h2
      · exact h3 u hu
    · refine Nat.le_trans h4 ?_
      rw [List.length_cons, Nat.pow_succ, Nat.mul_comm (B ^ T.length), ← Nat.mul_assoc]
      exact Nat.mul_le_mul_right _ (Nat.le_trans (wst_le ht) (Nat.mul_le_mul_left _ hb))
theorem whl_ok {B : Nat} {T : List (List Int)} (h : ∀ t ∈ T, le0 t ≠ 0 ∧ (le0 t).natAbs ≤ B) : whl T ≠ 0 ∧ (∀ t ∈ T, le0 t ∣ whl T) ∧ (whl T).natAbs ≤ B ^ T.length := by
  obtain ⟨h1, _, h3, h4⟩ := whl_aux T 1 (by decide) h
  exact ⟨h1, h3, by rw [show (1 : Int).natAbs = 1 from rfl, Nat.one_mul] at h4; exact h4⟩
theorem kok {B : Nat} {T : List (List Int)} (h : ∀ t ∈ T, le0 t ≠ 0) (hb : ∀ t ∈ T, ∀ j, (co t j).natAbs ≤ B) (h1 : 1 ≤ B) (hB : B ^ (T.length + 1) < 2 ^ 4470) : KOk T := by
  have hle : ∀ t ∈ T, le0 t ≠ 0 ∧ (le0 t).natAbs ≤ B := fun t ht => ⟨h t ht, hb t ht _⟩
  obtain ⟨w0, w1, w2⟩ := whl_ok hle
  have pw : ∀ k, k ≤ T.length → B ^ k * B ≤ B ^ (T.length + 1) := fun k hk => by
    rw [← Nat.pow_succ]
    exact Nat.pow_le_pow_right h1 (by omega)
  have b1 : ∀ t ∈ T, ∀ j, (co t j).natAbs < 2 ^ 4470 := fun t ht j => Nat.lt_of_le_of_lt (hb t ht j) (Nat.lt_of_le_of_lt (by have := pw 0 (Nat.zero_le _); rwa [Nat.pow_zero, Nat.one_mul] at this) hB)
  have wb : (whl T).natAbs < 2 ^ 4470 := Nat.lt_of_le_of_lt w2 (Nat.lt_of_le_of_lt (Nat.pow_le_pow_right h1 (by omega)) hB)
  have pre : ∀ A t C, T = A ++ t :: C → (whl A).natAbs < 2 ^ 4470 ∧ t ∈ T := fun A t C e => by
    have hA : ∀ u ∈ A, le0 u ≠ 0 ∧ (le0 u).natAbs ≤ B := fun u hu => hle u (by rw [e]; exact List.mem_append.mpr (.inl hu))
    refine ⟨Nat.lt_of_le_of_lt (whl_ok hA).2.2 (Nat.lt_of_le_of_lt (Nat.pow_le_pow_right h1 ?_) hB), by rw [e]; simp⟩
    rw [e, List.length_append]
    omega
  refine ⟨fun A t C e => ?_, fun A t C e => ?_, fun t ht => ?_, fun t ht f => ?_, fun t ht f => ?_, fun t ht f => ?_⟩
  · obtain ⟨p1, p2⟩ := pre A t C e
    exact cdiv_of (gcd_ne2 (h t p2)) (Int.ofNat_dvd_left.mpr (Nat.gcd_dvd_right ..)) (b1 t p2 _)
  · obtain ⟨p1, p2⟩ := pre A t C e
    exact cmul_of p1 (Nat.lt_of_le_of_lt (gq_le (h t p2)) (b1 t p2 _))
  · exact cdiv_of (h t ht) (w1 t ht) wb
  · refine cmul_of ?_ (b1 t ht f)
    rw [Int.natAbs_neg]
    exact Nat.lt_of_le_of_lt (quot_le (fdiv_ex (w1 t ht)) (h t ht)) wb
  · exact cmul_of wb (b1 t ht f)
  · refine cdiv_of (h t ht) (Int.dvd_trans (w1 t ht) ⟨_, rfl⟩) ?_
    rw [Int.natAbs_mul]
    exact Nat.lt_of_le_of_lt (Nat.le_trans (Nat.mul_le_mul w2 (hb t ht f)) (pw T.length (Nat.le_refl _))) hB
theorem co_set {l : List Int} {i j : Nat} {x : Int} : co (l.set i x) j = if j = i ∧ i < l.length then x else co l j := by
  unfold co
  rw [List.getD_eq_getElem?_getD, List.getD_eq_getElem?_getD, List.getElem?_set]
  by_cases c : j = i
  · subst c
    by_cases d : j < l.length
    · rw [if_pos rfl, if_pos d, if_pos ⟨rfl, d⟩]
      rfl
    · rw [if_pos rfl, if_neg d, if_neg fun z => d z.2, List.getElem?_eq_none (by omega)]
  · rw [if_neg (Ne.symm c), if_neg fun z => c z.1]
theorem fold_out {W : Int} {f j : Nat} : ∀ (T : List (List Int)) (o : List Int), (∀ t ∈ T, ld t ≠ j) → co (T.foldl (kst W f) o) j = co o j
  | [], _, _ => rfl
  | t :: T, o, h => by
    rw [List.foldl_cons, fold_out T _ fun u hu => h u (List.mem_cons_of_mem _ hu)]
    unfold kst
    rw [co_set, if_neg fun z => h t List.mem_cons_self z.1.symm]
theorem fold_in {W : Int} {f : Nat} {t : List Int} {C : List (List Int)} (A : List (List Int)) (o : List Int) (hC : ∀ u ∈ C, ld u ≠ ld t) (hl : ld t < o.length) : co ((A ++ t :: C).foldl (kst W f) o) (ld t) = -(W.fdiv (le0 t)) * co t f := by
  rw [List.foldl_append, List.foldl_cons, fold_out C _ hC]
  have e := fold_len (kst_len W f) A o
  generalize List.foldl (kst W f) o A = o2 at e ⊢
  show co (o2.set (ld t) _) (ld t) = _
  rw [co_set, if_pos ⟨rfl, by omega⟩]
theorem co_k0 {W : Int} {w f j : Nat} (hf : f < w) : co (k0 W w f) j = if j = f then W else 0 := by
  unfold k0
  rw [co_set, List.length_replicate]
  by_cases c : j = f
  · rw [if_pos ⟨c, hf⟩, if_pos c]
  · rw [if_neg fun z => c z.1, if_neg c]
    by_cases d : j < w
    · unfold co
      rw [List.getD_eq_getElem?_getD, List.getElem?_replicate, if_pos d]
      rfl
    · exact co_far (by rw [List.length_replicate]; omega)
theorem mem_frees {T : List (List Int)} {w f : Nat} : f ∈ frees T w ↔ f < w ∧ ∀ t ∈ T, ld t ≠ f := by
  unfold frees
  rw [List.mem_filter, List.mem_range]
  constructor
  · rintro ⟨h1, h2⟩
    refine ⟨h1, fun t ht e => ?_⟩
    have : (T.map ld).contains f = true := List.contains_iff_mem.mpr (List.mem_map.mpr ⟨t, ht, e⟩)
    rw [this] at h2
    cases h2
  · rintro ⟨h1, h2⟩
    refine ⟨h1, ?_⟩
    have : (T.map ld).contains f = false := by
      rw [Bool.eq_false_iff]
      intro z
      obtain ⟨t, ht, e⟩ := List.mem_map.mp (List.contains_iff_mem.mp z)
      exact h2 t ht e
    rw [this]
    rfl
theorem frees_cnt {T : List (List Int)} {w : Nat} (hl : ∀ t ∈ T, ld t < w) (hn : (T.map ld).Nodup) : (frees T w).length + T.length = w := by
  have p : List.Perm (frees T w ++ T.map ld) (List.range w) := (List.perm_ext_iff_of_nodup (List.nodup_append.mpr ⟨List.nodup_range.filter _, hn, fun a ha b hb e => by
      obtain ⟨t, ht, q⟩ := List.mem_map.mp hb
      exact (mem_frees.mp ha).2 t ht (q.trans e.symm)⟩) List.nodup_range).mpr fun a => by
    rw [List.mem_append, List.mem_range]
    constructor
    · rintro (h | h)
      · exact (mem_frees.mp h).1
      · obtain ⟨t, ht, q⟩ := List.mem_map.mp h
        exact q ▸ hl t ht
    · intro h
      by_cases c : ∀ t ∈ T, ld t ≠ a
      · exact .inl (mem_frees.mpr ⟨h, c⟩)
      · obtain ⟨t, ht⟩ := Classical.not_forall.mp c
        obtain ⟨h1, h2⟩ := Classical.not_imp.mp ht
        exact .inr (List.mem_map.mpr ⟨t, h1, Classical.not_not.mp h2⟩)
  have := p.length_eq
  rwa [List.length_append, List.length_map, List.length_range] at this
structure Kv (n : Nat) (T : List (List Int)) : Prop where
  free : ∀ f ∈ frees T n, ∀ g ∈ frees T n, co (kone T n f) g = if g = f then whl T else 0
  dot : ∀ f ∈ frees T n, ∀ t ∈ T, S n (fun j => co (kone T n f) j * co t j) = 0
  nz : whl T ≠ 0
  bd : ∀ B, (∀ t ∈ T, ∀ j, (co t j).natAbs ≤ B) → 1 ≤ B → ∀ f ∈ frees T n, ∀ j, (co (kone T n f) j).natAbs ≤ B ^ (T.length + 1)
theorem S_two {g : Nat → Int} {n p q : Nat} (hp : p < n) (hq : q < n) (hpq : p ≠ q) (h : ∀ i, i < n → i ≠ p → i ≠ q → g i = 0) : S n g = g p + g q := by
  have e : S n g = S n (fun i => (if i = p then g i else 0) + (if i = p then 0 else g i)) := S_congr fun i _ => by
    by_cases c : i = p
    · rw [if_pos c, if_pos c, Int.add_zero]
    · rw [if_neg c, if_neg c, Int.zero_add]
  rw [e, S_add, S_one hp fun i _ hne => by rw [if_neg hne], S_one hq fun i hi hne => by
    by_cases c : i = p
    · rw [if_pos c]
    · rw [if_neg c]
      exact h i hi c hne]
  rw [if_pos rfl, if_neg (Ne.symm hpq)]
theorem Told.nodup {w M : Nat} {rows T : List (List Int)} (h : Told w M rows T) : (T.map ld).Nodup := by
  unfold List.Nodup
  rw [List.pairwise_iff_getElem]
  intro i j hi hj hij e
  rw [List.length_map] at hi hj
  rw [List.getElem_map, List.getElem_map] at e
  have hz := h.z i j hi hj (by omega)
  have g : ∀ k, (hk : k < T.length) → T.getD k [] = T[k] := fun k hk => by rw [List.getD_eq_getElem?_getD, List.getElem?_eq_getElem hk]; rfl
  unfold row at hz
  rw [g i hi, g j hj, e] at hz
  exact h.nz _ (List.getElem_mem hj) hz
theorem Told.split {w M : Nat} {rows T : List (List Int)} (h : Told w M rows T) {t : List Int} (ht : t ∈ T) : ∃ A C, T = A ++ t :: C ∧ (∀ u ∈ C, ld u ≠ ld t) ∧ ∀ u ∈ T, u ≠ t → co t (ld u) = 0 := by
  obtain ⟨i, hi, e⟩ := List.mem_iff_getElem.mp ht
  have g : ∀ k, (hk : k < T.length) → T.getD k [] = T[k] := fun k hk => by rw [List.getD_eq_getElem?_getD, List.getElem?_eq_getElem hk]; rfl
  obtain ⟨A, C, es⟩ := List.append_of_mem ht
  refine ⟨A, C, es, fun u hu eq => ?_, fun u hu ne => ?_⟩
  · have nd := h.nodup
    rw [es, List.map_append, List.map_cons] at nd
    have := (List.nodup_append.mp nd).2.1
    exact (List.nodup_cons.mp this).1 (List.mem_map.mpr ⟨u, hu, eq⟩)
  · obtain ⟨k, hk, e2⟩ := List.mem_iff_getElem.mp hu
    have hki : i ≠ k := fun z => by
      subst z
      exact ne (e2.symm.trans e)
    have hz := h.z k i hk hi hki
    unfold row at hz
    rw [g k hk, g i hi, e, e2] at hz
    exact hz
theorem kv {n M : Nat} {rows T : List (List Int)} (h : Told n M rows T) : Kv n T := by
  have hle : ∀ B, (∀ t ∈ T, ∀ j, (co t j).natAbs ≤ B) → ∀ t ∈ T, le0 t ≠ 0 ∧ (le0 t).natAbs ≤ B := fun B hB t ht => ⟨h.nz t ht, hB t ht _⟩
  obtain ⟨w0, w1, _⟩ := whl_ok (hle _ h.bd)
  have out : ∀ f ∈ frees T n, ∀ j, (∀ t ∈ T, ld t ≠ j) → co (kone T n f) j = if j = f then whl T else 0 := fun f hf j hj => by
    unfold kone
    rw [fold_out T _ hj, co_k0 (frees_lt hf)]
  have inn : ∀ f ∈ frees T n, ∀ t ∈ T, co (kone T n f) (ld t) = -((whl T).fdiv (le0 t)) * co t f := fun f hf t ht => by
    obtain ⟨A, C, es, hC, _⟩ := h.split ht
    unfold kone
    generalize whl T = W
    rw [es]
    exact fold_in A _ hC (by rw [k0_len]; exact h.lt t ht)
  refine ⟨fun f hf g hg => out f hf g (mem_frees.mp hg).2, fun f hf t ht => ?_, w0, fun B hB h1 f hf j => ?_⟩
  · obtain ⟨fn, fl⟩ := mem_frees.mp hf
    obtain ⟨A, C, es, hC, hz⟩ := h.split ht
    rw [S_two fn (h.lt t ht) (Ne.symm (fl t ht)) fun j hj h1 h2 => ?_]
    · rw [out f hf f fl, if_pos rfl, inn f hf t ht]
      have e := fdiv_ex (w1 t ht)
      generalize (whl T).fdiv (le0 t) = q at e
      rw [← e]
      grind
    · by_cases c : ∃ u ∈ T, ld u = j
      · obtain ⟨u, hu, eu⟩ := c
        rw [← eu, hz u hu fun z => h2 (by rw [← eu, z]), Int.mul_zero]
      · rw [out f hf j fun u hu e => c ⟨u, hu, e⟩, if_neg h1, Int.zero_mul]
  · have w2 := (whl_ok (hle B hB)).2.2
    have p1 : B ^ T.length ≤ B ^ (T.length + 1) := Nat.pow_le_pow_right h1 (by omega)
    by_cases c : ∃ u ∈ T, ld u = j
    · obtain ⟨u, hu, eu⟩ := c
      rw [← eu, inn f hf u hu, Int.natAbs_mul, Int.natAbs_neg, Nat.pow_succ]
      exact Nat.mul_le_mul (Nat.le_trans (quot_le (fdiv_ex (w1 u hu)) (h.nz u hu)) w2) (hB u hu f)
    · rw [out f hf j fun u hu e => c ⟨u, hu, e⟩]
      by_cases d : j = f
      · rw [if_pos d]
        exact Nat.le_trans w2 p1
      · rw [if_neg d]
        exact Nat.zero_le _
end K65

set_option Elab.async false
set_option linter.all false
set_option maxRecDepth 100000
set_option maxHeartbeats 4000000
set_option exponentiation.threshold 10000
namespace K65
open PySem PySem.Spec PyProof.Rows L2 StX RZ MyR SlX OwnR OwnF EnumT GxR GenNx FDivQ
theorem take_split {T : List (List Int)} {i : Nat} {t : List Int} (h : T[i]? = some t) : T = T.take i ++ t :: T.drop (i + 1) := by
  obtain ⟨hi, e⟩ := List.getElem?_eq_some_iff.mp h
  rw [← e, List.getElem_cons_drop, List.take_append_drop]
theorem RX.memA {p : Addr → List Int → Prop} : ∀ {as : List Addr} {rs : List (List Int)} {a : Addr}, RX p as rs → a ∈ as → ∃ r, r ∈ rs ∧ p a r
  | [], [], _, _, h => absurd h List.not_mem_nil
  | b :: as, r :: rs, a, h, ha => by
    rcases List.mem_cons.mp ha with rfl | ha
    · exact ⟨r, List.mem_cons_self, h.1⟩
    · obtain ⟨s, hs, k⟩ := RX.memA h.2 ha
      exact ⟨s, List.mem_cons_of_mem _ hs, k⟩
theorem RR.updN {H : Hp} {D : Addr} {o : HO} {as : List Addr} {rs : List (List Int)} (h : RR H as rs) (hn : ∀ a ∈ as, a ≠ D) : RR (L2.upd H D o) as rs := RX.impM (fun a ha r e => by rw [upd_ne (hn a ha)]; exact e) h
theorem tg_updL {Ps : List Addr} {H : Hp} {D : Addr} {o : HO} {xs : List V} (h : Tg Ps H) (hD : H D = some (.lst xs)) : Tg Ps (L2.upd H D o) := fun P m => by
  obtain ⟨ps, e, k⟩ := h P m
  refine ⟨ps, ?_, k⟩
  rw [upd_ne fun z => by rw [z, hD] at e; cases e]
  exact e
theorem ixN_at {n j : Nat} (h : j < n) : ixN n (j : Int) = some j := by
  unfold ixN
  rw [if_pos (by omega), if_pos (by omega)]
  rfl
theorem flat_ints (l : List Int) : (l.map V.int).all flatV = true := by
  rw [List.all_eq_true]
  intro x hx
  obtain ⟨i, _, rfl⟩ := List.mem_map.mp hx
  rfl
theorem inV_ld (T : List (List Int)) (j : Nat) : inV (.int (j : Int)) ((T.map fun t => (ld t : Int)).map V.int) = (T.map ld).contains j := by
  unfold inV
  rw [List.map_map, List.any_map, List.contains_eq_any_beq, List.any_map]
  congr 1
  funext t
  show ((ld t : Int) == (j : Int)) = (j == ld t)
  by_cases c : ld t = j
  · rw [c, beq_self_eq_true, beq_self_eq_true]
  · rw [beq_false_of_ne (fun z => c (by omega)), beq_false_of_ne (fun z => c z.symm)]
section
variable {P : Program} {w : World} {K : PySem.W.Frag} {mg : Str → Option Value} {base : Heap} {Ps : List Addr}
def spKern (Ps : List Addr) : Sp := fun vs H Q _ => ∃ (t : Addr) (as : List Addr) (rows : List (List Int)) (n : Nat), vs = [.ref t, .int n] ∧ (H t = some (.tup (as.map V.ref)) ∨ H t = some (.lst (as.map V.ref))) ∧ RA H as rows ∧ rows.length ≤ 100 ∧ n ≤ 100 ∧ (∀ r ∈ rows, r.length = n) ∧
  EOk less rows n ∧ (∀ t ∈ ech less rows n, t.length = n ∧ ld t < n) ∧ KOk (ech less rows n) ∧ EOk less (kvs (ech less rows n) n) n ∧ Tg Ps H ∧ ∀ p bs H', Sts Ps H H' → Tg Ps H' → H' p = some (.lst (bs.map V.ref)) → RR H' bs (ech less (kvs (ech less rows n) n) n) → Q (.ref p) H'
theorem ok_kernel_rows (T : Facts K mg) (TB_first_of : TabB base mg T.c_first_of T.P_first_of) (hP : T.P_first_of ∈ Ps) : FnOk P w K mg base CX0 4 T.f_kernel_rows T.fd_kernel_rows ["rows", "width"] (spKern Ps) := by
  have G_echelon_rows := ok_echelon_rows (P := P) (w := w) (base := base) T TB_first_of hP
  have G_lead_of := ok_lead_of (P := P) (w := w) (base := base) T
  refine T.F_kernel_rows.ok sc_kernel_rows (fun vs H Q E h => ?_) (fun cdv A outer s H vs Q E hr h => ?_)
  · obtain ⟨t, as, rows, n, rfl, _⟩ := h
    rfl
  · obtain ⟨t, as, rows, n, rfl, hS, hA, hl, hn, hw, ok, hT, hk, ok2, hG, q⟩ := h
    refine ⟨_, (PSs.nox (pss_cons (ps_par (i := 2) (j := 3) (by rfl) sc_kernel_rows.nd rfl rfl (by decide) rfl rfl (pa_cons (pe_call G_echelon_rows hr (by rfl) T.g_echelon_rows T.F_echelon_rows.kp T.b_echelon_rows .nil pass0 (pa_cons (pv 0) (pa_cons (pv 1) pa_nil))) (pa_cons (pe_lst pa_nil) pa_nil)) (by rfl))
    (pss_cons (ps_set (i := 4) sc_kernel_rows.nd rfl (.inr rfl) (pe_lc (own := [("row", 5)]) (g := (gName 5)) (tt := tYes) (by rfl) sc_kernel_rows.nd (pi_list (pv 2)) (blkOk_by (N := N_kernel_rows) (sc := defScope s_kernel_rows) (by decide +kernel)) (fun _ _ _ _ _ => (pg_name (i := 5) sc_kernel_rows.nd rfl (.inl rfl))) (fun _ _ _ _ _ => pts_nil) (fun _ _ _ _ _ => (pe_call G_lead_of (hr.mono (by decide)) (by rfl) T.g_lead_of T.F_lead_of.kp T.b_lead_of .nil pass0 (pa_cons (pv 5) pa_nil)))))
    (pss_cons (ps_set (i := 6) sc_kernel_rows.nd rfl (.inl rfl) pe_int)
    (pss_cons (ps_for PassesOwn.never (by rfl) (pi_zipA (by rfl) T.z_zip (pa_cons (pv 2) (pa_cons (pv 4) pa_nil))) (pg_tup (by rfl) (pgs_cons (pg_name (i := 5) sc_kernel_rows.nd rfl (.inl rfl)) (pgs_cons (pg_name (i := 7) sc_kernel_rows.nd rfl (.inl rfl)) pgs_nil)))
      (pss_one (ps_set (i := 6) sc_kernel_rows.nd rfl (.inl rfl) (pe_op op_mulW (pv 6) (pe_op FDivQ.op_fdivQ (pe_ix ix_list (pv 5) (pv 7) (fun _ _ => rfl)) (pe_callBfun cr_gcd (by rfl) T.m_gcd (pa_cons (pv 6) (pa_cons (pe_ix ix_list (pv 5) (pv 7) (fun _ _ => rfl)) pa_nil))))))))
    (pss_cons (ps_for PassesOwn.never (by rfl) (pi_list (pe_lc (own := [("place", 9)]) (g := (gName 9)) (by rfl) sc_kernel_rows.nd (pi_range1 (by rfl) T.z_range (pa_cons (pv 1) pa_nil)) (blkOk_by (N := N_kernel_rows) (sc := defScope s_kernel_rows) (by decide +kernel)) (fun _ _ _ _ _ => (pg_name (i := 9) sc_kernel_rows.nd rfl (.inl rfl))) (fun _ _ _ _ _ => (pts_one (pt_cmpR (op_notIn_seq : OpR _ (compareOp .NotIn) (rIn K true)) (pv 9) (pv 4) (by rfl)))) (fun _ _ _ _ _ => (pv 9)))) (pg_name (i := 8) sc_kernel_rows.nd rfl (.inl rfl))
      (pss_cons (ps_set (i := 10) sc_kernel_rows.nd rfl (.inl rfl) (pe_op op_rep (pe_lst (pa_cons pe_int pa_nil)) (pv 1)))
      (pss_cons (ps_asg (pv 6) (pg_sub (pv 10) (pv 8) set_list))
      (pss_cons (ps_for PassesOwn.never (by rfl) (pi_zipA (by rfl) T.z_zip (pa_cons (pv 2) (pa_cons (pv 4) pa_nil))) (pg_tup (by rfl) (pgs_cons (pg_name (i := 5) sc_kernel_rows.nd rfl (.inl rfl)) (pgs_cons (pg_name (i := 7) sc_kernel_rows.nd rfl (.inl rfl)) pgs_nil)))
        (pss_one (ps_asg (pe_op op_mulW (pe_un un_neg (pe_op FDivQ.op_fdivQ (pv 6) (pe_ix ix_list (pv 5) (pv 7) (fun _ _ => rfl)))) (pe_ix ix_list (pv 5) (pv 8) (fun _ _ => rfl))) (pg_sub (pv 10) (pv 7) set_list))))
      (pss_one (ps_expr (pe_bm PySem.F.plainAttrs_list PySem.F.slot_list_append PySem.F.type_list_append mt_append (pv 3) (pa_cons (pv 10) pa_nil))))))))
    (pss_one (ps_ret (pe_call G_echelon_rows hr (by rfl) T.g_echelon_rows T.F_echelon_rows.kp T.b_echelon_rows .nil pass0 (pa_cons (pv 3) (pa_cons (pv 1) pa_nil))))))))))), ?_⟩
    refine ⟨_, rfl, _, rfl, t, as, rows, n, rfl, hS, hA, hl, hn, hw, ok, hG, fun p bs H1 s1 t1 e1 r1 => ?_⟩
    dsimp only [tCons, tLst, tNil]
    refine ⟨by decide, fun F hF => ⟨_, _, rfl, ?_⟩⟩
    have s2 : Sts Ps H (upd H1 F (.lst [])) := s1.trans (Sts.of (same_upd0 hF))
    have t2 : Tg Ps (upd H1 F (.lst [])) := t1.same (same_upd0 hF)
    have e2 := same_upd0 (o := .lst []) hF _ _ e1
    have r2 : RR (upd H1 F (.lst [])) bs (ech less rows n) := r1.same (same_upd0 hF)
    have nF : ∀ b o, b ∉ Ps → H b = some o → b ≠ F := fun b o nb e => ne_of_none (s1 _ _ nb e) hF
    have f2 : (upd H1 F (.lst [])) F = some (.lst []) := upd_same
    have pF : p ≠ F := ne_of_none e1 hF
    have bF : ∀ a ∈ bs, a ≠ F := fun a ha => by
      obtain ⟨r, _, e⟩ := RX.memA r1 ha
      exact ne_of_none e hF
    generalize upd H1 F (.lst []) = H2 at s2 t2 e2 r2 f2 ⊢
    clear s1 t1 e1 r1 hF
    have hTl : (ech less rows n).length ≤ 100 := by
      unfold ech
      rw [List.length_map]
      have := eS_cnt less rows n
      omega
    generalize ech less rows n = Tl at hT hk ok2 q r2 hTl ⊢
    have blen := r2.len
    refine ⟨_, rfl, p, rfl, ⟨_, SqL.of e2⟩, fun L hL => ?_⟩
    refine lc_list (xs := bs.map V.ref) (fun j H' => Same H2 H' ∧ H' L = some (.lst (((Tl.take j).map fun t => (ld t : Int)).map V.int))) ⟨same_upd0 hL, upd_same⟩ (fun j H' _ hP => SqL.of (hP.1 _ _ e2)) (fun j x H' hx hP => ?_) (fun H3 hP => ?_)
    · obtain ⟨sH, hL'⟩ := hP
      rw [List.getElem?_map] at hx
      obtain ⟨a, ha, rfl⟩ := Option.map_eq_some_iff.mp hx
      obtain ⟨a', r, g1, g2, g3⟩ := RX.get r2 (by rw [← blen]; exact (List.getElem?_eq_some_iff.mp ha).1)
      rw [ha] at g1
      cases g1
      have hr2 := hT r (List.mem_of_getElem? g2)
      refine ⟨rfl, _, rfl, a, r, rfl, sH _ _ g3, by rw [hr2.1]; exact hn, by rw [hr2.1]; exact hr2.2, fun H4 s4 => ⟨_, s4 _ _ hL', ?_, fun b o e => ?_, ?_⟩⟩
      · rw [List.length_map, List.length_map, List.length_take]
        exact small1000 (by omega)
      · rw [upd_ne (ne_of_none e hL)]
        exact s4 _ _ (sH _ _ e)
      · rw [upd_same, List.take_add_one, g2, List.map_append, List.map_append]
        rfl
    · obtain ⟨s3, l3⟩ := hP
      rw [List.length_map, blen, List.take_length] at l3
      have e3 := s3 _ _ e2
      have f3 := s3 _ _ f2
      have r3 := r2.same s3
      have t3 := t2.same s3
      have s3' := s2.trans (Sts.of s3)
      have nLF : L ≠ F := fun e => by
        rw [e, f2] at hL
        cases hL
      clear s3 e2 f2 r2 t2 s2
      refine ⟨_, rfl, _, rfl, p, L, bs.map V.ref, (Tl.map fun t => (ld t : Int)).map V.int, rfl, .inl ⟨SqL.of e3, SqL.of l3, for_zipL (xs := bs.map V.ref) (ys := (Tl.map fun t => (ld t : Int)).map V.int) (by rw [List.length_map, List.length_map, List.length_map, blen]) (fun i σ H' => ∃ y5 y7, σ = [some (.ref t), some (.int n), some (.ref p), some (.ref F), some (.ref L), y5, some (.int (whl (Tl.take i))), y7, none, none, none] ∧ Same H3 H') ⟨none, none, rfl, fun _ _ e => e⟩ (fun i σ H' hP => by
        obtain ⟨y5, y7, _, sH⟩ := hP
        exact ⟨SqL.of (sH _ _ e3), SqL.of (sH _ _ l3)⟩) (fun i x y A σ H' hx hy hP hA => ?_) (fun σ H4 hP => ?_)⟩⟩
      · obtain ⟨y5, y7, rfl, sH⟩ := hP
        rw [List.getElem?_map] at hx
        obtain ⟨a, ha, rfl⟩ := Option.map_eq_some_iff.mp hx
        obtain ⟨a', r, g1, g2, g3⟩ := RX.get r3 (by rw [← blen]; exact (List.getElem?_eq_some_iff.mp ha).1)
        rw [ha] at g1
        cases g1
        rw [List.getElem?_map, List.getElem?_map, g2] at hy
        obtain rfl : V.int (ld r : Int) = y := Option.some.inj hy
        have hr2 := hT r (List.mem_of_getElem? g2)
        have sA := same_upd0 (o := .tup [.ref a, .int (ld r : Int)]) hA
        have gA := sA _ _ (sH _ _ g3)
        have k1 := hk.c1 _ _ _ (take_split g2)
        have k2 := hk.m1 _ _ _ (take_split g2)
        have ix : atI (r.map V.int) ((ld r : Nat) : Int) = some (.int (le0 r)) := atI_nat (get_int (by rw [hr2.1]; exact hr2.2))
        refine ⟨A, _, rfl, SqT.of upd_same, rfl, _, _, rfl, _, _, rfl, rfl, _, rfl, _, rfl, _, rfl, a, _, _, .int (le0 r), rfl, rfl, SqL.of gA, ix, _, rfl, _, rfl, _, rfl, a, _, _, .int (le0 r), rfl, rfl, SqL.of gA, ix, _, _, rfl, _, _, rfl, rfl, k1, _, _, rfl, rfl, k2, some (.ref a), some (.int (ld r : Nat)), ?_, fun b o e => sA _ _ (sH _ _ e)⟩
        rw [List.take_add_one, g2, show (some r).toList = [r] from rfl, whl_snoc]
        rfl
      · obtain ⟨y5, y7, rfl, sH⟩ := hP
        rw [List.length_map, blen, List.take_length]
        have e4 := sH _ _ e3
        have l4 := sH _ _ l3
        have f4 := sH _ _ f3
        have r4 := r3.same sH
        have t4 := t3.same sH
        have s4 := s3'.trans (Sts.of sH)
        clear sH e3 l3 f3 r3 t3 s3'
        refine ⟨_, rfl, _, rfl, by omega, by omega, fun D hD => ?_⟩
        refine lc_range (n := n) (fun j H' => Same H4 H' ∧ H' D = some (.lst ((frees Tl j).map fun p : Nat => V.int (p : Int)))) ⟨same_upd0 hD, upd_same⟩ (fun j H' hj hP => ?_) (fun H5 hP => ?_)
        · obtain ⟨sH, hL'⟩ := hP
          rw [Int.zero_add]
          refine ⟨rfl, _, rfl, _, rfl, L, _, rfl, .inl (SqL.of (sH _ _ l4)), rfl, flat_ints _, _, rfl, ?_⟩
          rw [if_pos rfl, inV_ld]
          unfold frees at hL' ⊢
          rw [List.range_succ, List.filter_append]
          cases d : (Tl.map ld).contains j with
          | true =>
            refine iteF ⟨sH, ?_⟩
            rw [hL', List.filter_cons_of_neg (by simp only [d, Bool.not_true, Bool.false_eq_true, not_false_eq_true]), List.filter_nil, List.append_nil]
          | false =>
            refine iteT ⟨_, rfl, _, hL', ?_, fun b o e => ?_, ?_⟩
            · rw [List.length_map]
              have h1 := List.length_filter_le (fun p => !(Tl.map ld).contains p) (List.range j)
              rw [List.length_range] at h1
              exact small1000 (by omega)
            · rw [upd_ne (ne_of_none e hD)]
              exact sH _ _ e
            · rw [upd_same, List.filter_cons_of_pos (by simp only [d, Bool.not_false]), List.filter_nil, List.map_append]
              rfl
        · obtain ⟨s5, d5⟩ := hP
          have e5 := s5 _ _ e4
          have l5 := s5 _ _ l4
          have f5 := s5 _ _ f4
          have r5 := r4.same s5
          have t5 := t4.same s5
          have s5' := s4.trans (Sts.of s5)
          have nDF : D ≠ F := fun e => by
            rw [e, f4] at hD
            cases hD
          clear s5 e4 l4 f4 r4 t4 s4
          refine ⟨D, rfl, ⟨_, SqL.of d5⟩, for_list (xs := (frees Tl n).map fun p : Nat => V.int (p : Int)) (fun i σ H' => ∃ fs y5 y7 y8 y10, σ = [some (.ref t), some (.int n), some (.ref p), some (.ref F), some (.ref L), y5, some (.int (whl Tl)), y7, y8, none, y10] ∧ Sts Ps H H' ∧ Tg Ps H' ∧ H' p = some (.lst (bs.map V.ref)) ∧ H' L = some (.lst ((Tl.map fun t => (ld t : Int)).map V.int)) ∧ RR H' bs Tl ∧ H' D = some (.lst ((frees Tl n).map fun p : Nat => V.int (p : Int))) ∧ H' F = some (.lst (fs.map V.ref)) ∧ RR H' fs (((frees Tl n).take i).map (kone Tl n)) ∧ ∀ a ∈ fs, a ≠ F) ⟨[], y5, y7, none, none, rfl, s5', t5, e5, l5, r5, d5, f5, True.intro, fun a ha => absurd ha List.not_mem_nil⟩ (fun i σ H' _ hP => by
            obtain ⟨fs, y5, y7, y8, y10, _, _, _, _, _, _, d6, _⟩ := hP
            exact SqL.of d6) (fun i x σ H6 hx hP => ?_) (fun σ H6 hP => ?_)⟩
          · obtain ⟨fs, y5, y7, y8, y10, rfl, s6, t6, e6, l6, r6, d6, f6, g6, n6⟩ := hP
            rw [List.getElem?_map] at hx
            obtain ⟨fr, hfr, rfl⟩ := Option.map_eq_some_iff.mp hx
            have hfn := frees_lt (List.mem_of_getElem? hfr)
            refine ⟨by decide, fun Z hZ => ⟨_, rfl, Z, n, [.int 0], rfl, rfl, upd_same, by omega, by omega, by show 1 * (n : Int).toNat ≤ sizeLine; rw [Int.toNat_natCast, Nat.one_mul]; exact Nat.le_of_lt (small1000 (by omega)), fun O hO => ?_⟩⟩
            have s7 : Same H6 (upd (upd H6 Z (.lst [.int 0])) O (.lst (List.replicate (n : Int).toNat [V.int 0]).flatten)) := fun b o e => same_upd0 hO _ _ (same_upd0 hZ _ _ e)
            have nO : H6 O = none := by
              cases e : H6 O with
              | none => rfl
              | some o =>
                rw [same_upd0 hZ _ _ e] at hO
                cases hO
            have o7 : (upd (upd H6 Z (.lst [.int 0])) O (.lst (List.replicate (n : Int).toNat [V.int 0]).flatten)) O = some (ls (List.replicate n 0)) := by
              rw [upd_same, Int.toNat_natCast, List.flatten_replicate_singleton, ls, List.map_replicate]
            generalize upd (upd H6 Z (.lst [.int 0])) O (.lst (List.replicate (n : Int).toNat [V.int 0]).flatten) = H7 at s7 o7 ⊢
            clear hO hZ
            refine ⟨_, rfl, _, rfl, _, rfl, O, _, _, fr, rfl, rfl, o7, ixN_at (by rw [List.length_map, List.length_replicate]; exact hfn), ?_⟩
            have s8 : Same H6 (upd H7 O (.lst (((List.replicate n (0 : Int)).map V.int).set fr (.int (whl Tl))))) := fun b o e => by
              rw [upd_ne (ne_of_none e nO)]
              exact s7 _ _ e
            have o8 : (upd H7 O (.lst (((List.replicate n (0 : Int)).map V.int).set fr (.int (whl Tl))))) O = some (ls (k0 (whl Tl) n fr)) := by
              rw [upd_same, k0, ls, List.map_set]
            generalize upd H7 O (.lst (((List.replicate n (0 : Int)).map V.int).set fr (.int (whl Tl)))) = H8 at s8 o8 ⊢
            clear s7 o7
            refine ⟨_, rfl, _, rfl, p, L, bs.map V.ref, (Tl.map fun t => (ld t : Int)).map V.int, rfl, .inl ⟨SqL.of (s8 _ _ e6), SqL.of (s8 _ _ l6), for_zipL (xs := bs.map V.ref) (ys := (Tl.map fun t => (ld t : Int)).map V.int) (by rw [List.length_map, List.length_map, List.length_map, blen]) (fun i σ H' => ∃ y5 y7, σ = [some (.ref t), some (.int n), some (.ref p), some (.ref F), some (.ref L), y5, some (.int (whl Tl)), y7, some (.int (fr : Nat)), none, some (.ref O)] ∧ Same H6 H' ∧ H' O = some (ls ((Tl.take i).foldl (kst (whl Tl) fr) (k0 (whl Tl) n fr)))) ⟨y5, y7, rfl, s8, o8⟩ (fun i σ H' hP => by
              obtain ⟨y5, y7, _, sH, _⟩ := hP
              exact ⟨SqL.of (sH _ _ e6), SqL.of (sH _ _ l6)⟩) (fun i x y A σ H' hx hy hP hA => ?_) (fun σ H9 hP => ?_)⟩⟩
            · obtain ⟨y5, y7, rfl, sH, oH⟩ := hP
              rw [List.getElem?_map] at hx
              obtain ⟨a, ha, rfl⟩ := Option.map_eq_some_iff.mp hx
              obtain ⟨a', r, g1, g2, g3⟩ := RX.get r6 (by rw [← blen]; exact (List.getElem?_eq_some_iff.mp ha).1)
              rw [ha] at g1
              cases g1
              rw [List.getElem?_map, List.getElem?_map, g2] at hy
              obtain rfl : V.int (ld r : Int) = y := Option.some.inj hy
              have hm := List.mem_of_getElem? g2
              have hr2 := hT r hm
              have sA := same_upd0 (o := .tup [.ref a, .int (ld r : Int)]) hA
              have gA := sA _ _ (sH _ _ g3)
              have ix : atI (r.map V.int) ((ld r : Nat) : Int) = some (.int (le0 r)) := atI_nat (get_int (by rw [hr2.1]; exact hr2.2))
              have ix2 : atI (r.map V.int) ((fr : Nat) : Int) = some (.int (co r fr)) := atI_nat (get_int (by rw [hr2.1]; exact hfn))
              have fl : (List.foldl (kst (whl Tl) fr) (k0 (whl Tl) n fr) (Tl.take i)).length = n := by rw [fold_len (kst_len _ _), k0_len]
              refine ⟨A, _, rfl, SqT.of upd_same, rfl, _, _, rfl, _, _, rfl, rfl, _, rfl, _, rfl, _, rfl, a, _, _, .int (le0 r), rfl, rfl, SqL.of gA, ix, _, _, rfl, rfl, hk.c2 r hm, _, rfl, _, rfl, _, rfl, a, _, _, .int (co r fr), rfl, rfl, SqL.of gA, ix2, _, _, rfl, rfl, hk.m2 r hm fr, _, rfl, _, rfl, O, _, _, ld r, rfl, rfl, sA _ _ oH, ixN_at (by rw [List.length_map, fl]; exact hr2.2), some (.ref a), some (.int (ld r : Nat)), rfl, fun b o e => ?_, ?_⟩
              · rw [upd_ne (ne_of_none e nO)]
                exact sA _ _ (sH _ _ e)
              · rw [upd_same, List.take_add_one, g2, List.foldl_append]
                show some (HO.lst _) = some (HO.lst ((kst (whl Tl) fr _ r).map V.int))
                unfold kst
                rw [List.map_set]
            · obtain ⟨y5, y7, rfl, sH, oH⟩ := hP
              rw [List.length_map, blen, List.take_length] at oH
              have oH : H9 O = some (ls (kone Tl n fr)) := oH
              have fl := g6.len
              rw [List.length_map] at fl
              have hi : i < (frees Tl n).length := (List.getElem?_eq_some_iff.mp hfr).1
              have hi2 := frees_len Tl n
              rw [List.length_take] at fl
              have fH := sH _ _ f6
              have nOF : O ≠ F := fun e => by
                rw [e, f6] at nO
                cases nO
              refine ⟨_, rfl, .inl ⟨rfl, _, SqL.of fH⟩, _, rfl, F, _, _, rfl, rfl, fH, by rw [List.length_map]; exact small1000 (by omega), fs ++ [O], y5, y7, _, _, rfl, fun b o nb e => ?_, tg_updL (t6.same sH) fH, ?_, ?_, (r6.same sH).updN bF, ?_, ?_, ?_, fun a ha => ?_⟩
              · rw [upd_ne (nF b o nb e)]
                exact sH _ _ (s6 b o nb e)
              · rw [upd_ne pF]
                exact sH _ _ e6
              · rw [upd_ne nLF]
                exact sH _ _ l6
              · rw [upd_ne nDF]
                exact sH _ _ d6
              · rw [upd_same, List.map_append]
                rfl
              · rw [List.take_add_one, hfr, List.map_append]
                refine RX.snoc ((g6.same sH).updN n6) ?_
                show upd H9 F _ O = _
                rw [upd_ne nOF]
                exact oH
              · rcases List.mem_append.mp ha with ha | ha
                · exact n6 a ha
                · rw [List.mem_singleton.mp ha]
                  exact nOF
          · obtain ⟨fs, y5, y7, y8, y10, rfl, s6, t6, e6, l6, r6, d6, f6, g6, n6⟩ := hP
            rw [List.length_map, List.take_length] at g6
            have g6 : RR H6 fs (kvs Tl n) := g6
            have hi2 := frees_len Tl n
            refine ⟨_, rfl, _, rfl, F, fs, kvs Tl n, n, rfl, .inr f6, RX.imp (fun a r e => .inr e) g6, by unfold kvs; rw [List.length_map]; omega, hn, fun r hr => ?_, ok2, t6, fun p bs H' s7 t7 e7 r7 => q p bs H' (s6.trans s7) t7 e7 r7⟩
            obtain ⟨f, hf, rfl⟩ := List.mem_map.mp hr
            exact kone_len _ _ _
end
end K65

set_option Elab.async false
set_option linter.all false
set_option maxRecDepth 100000
set_option maxHeartbeats 2000000
set_option exponentiation.threshold 10000
/-! levels: acting is a sum of products with the level entries -/
namespace K65
open PySem PySem.Spec PyProof.Rows L2 FDivQ LA
def dotn (r c : List Int) (i : Nat) : List Int := tb i fun k => co r k * co c k
def dot (r c : List Int) : Int := (dotn r c r.length).sum
def fc : Nat → Nat
  | 0 => 1
  | n + 1 => (n + 1) * fc n
theorem fc_pos : ∀ n, 0 < fc n
  | 0 => Nat.one_pos
  | n + 1 => Nat.mul_pos (Nat.succ_pos n) (fc_pos n)
/-- the level entries -/
def lev (l : List Int) : List Int := tb l.length fun i => (fc i : Int) * (fc (l.length - 1 - i) : Int) * co l i
theorem lev_len (l : List Int) : (lev l).length = l.length := tb_len _ _
theorem co_lev {l : List Int} {i : Nat} (h : i < l.length) : co (lev l) i = (fc i : Int) * (fc (l.length - 1 - i) : Int) * co l i := by
  unfold lev
  rw [co_tb, if_pos h]
theorem lev_dX {l : List Int} {k : Nat} (h : k + 1 < l.length) : co (lev (dX l)) k = co (lev l) k := by
  have hl := dX_len l
  rw [co_lev (by omega), co_lev (by omega), hl]
  unfold dX
  rw [co_tb, if_pos (by omega)]
  obtain ⟨m, hm⟩ : ∃ m, l.length = k + m + 2 := ⟨l.length - k - 2, by omega⟩
  rw [hm, show k + m + 2 - 1 - 1 - k = m by omega, show k + m + 2 - 1 - k = m + 1 by omega]
  show (fc k : Int) * (fc m : Int) * (co l k * (((k + m + 2 : Nat) : Int) - 1 - (k : Int))) = (fc k : Int) * (((m + 1) * fc m : Nat) : Int) * co l k
  rw [Int.natCast_mul]
  have e : ((k + m + 2 : Nat) : Int) - 1 - (k : Int) = ((m + 1 : Nat) : Int) := by omega
  rw [e]
  grind
theorem lev_dY {l : List Int} {k : Nat} (h : k + 1 < l.length) : co (lev (dY l)) k = co (lev l) (k + 1) := by
  have hl := dY_len l
  rw [co_lev (by omega), co_lev (by omega), hl]
  unfold dY
  rw [co_tb, if_pos (by omega)]
  rw [show l.length - 1 - 1 - k = l.length - 1 - (k + 1) by omega]
  show (fc k : Int) * _ * (_) = (((k + 1) * fc k : Nat) : Int) * _ * _
  rw [Int.natCast_mul]
  grind
theorem lev_it_dX {l : List Int} : ∀ {i k : Nat}, i + k < l.length → co (lev (it dX i l)) k = co (lev l) k
  | 0, _, _ => rfl
  | i + 1, k, h => by
    show co (lev (dX (it dX i l))) k = _
    rw [lev_dX (by rw [dX_it_len]; omega), lev_it_dX (by omega)]
theorem lev_it_dY {l : List Int} : ∀ {j k : Nat}, j + k < l.length → co (lev (it dY j l)) k = co (lev l) (k + j)
  | 0, _, _ => rfl
  | j + 1, k, h => by
    show co (lev (dY (it dY j l))) k = _
    rw [lev_dY (by rw [dY_it_len]; omega), lev_it_dY (by omega)]
    congr 1
    omega
theorem lev_dd {l : List Int} {i j k : Nat} (h : i + j + k < l.length) : co (lev (dd i j l)) k = co (lev l) (k + j) := by
  unfold dd
  rw [lev_it_dY (by rw [dX_it_len]; omega), lev_it_dX (by omega)]
/-- what comes of l if one acts on it -/
def act (one l : List Int) : List Int := tb (l.length - (one.length - 1)) fun j => S one.length fun a => co one a * co (dd (one.length - 1 - a) a l) j
theorem act_len (one l : List Int) : (act one l).length = l.length - (one.length - 1) := tb_len _ _
theorem lev_act {one l : List Int} {k : Nat} (h1 : 1 ≤ one.length) (h2 : one.length ≤ l.length) (hk : k < l.length - (one.length - 1)) : co (lev (act one l)) k = S one.length fun a => co one a * co (lev l) (k + a) := by
  rw [co_lev (by rw [act_len]; exact hk), act_len]
  unfold act
  rw [co_tb, if_pos hk, ← S_mul]
  refine S_congr fun a ha => ?_
  have e := lev_dd (l := l) (i := one.length - 1 - a) (j := a) (k := k) (by omega)
  rw [← e, co_lev (by rw [dd_len]; omega), dd_len, show l.length - (one.length - 1 - a) - a = l.length - (one.length - 1) by omega]
  grind
theorem lev_zero {l : List Int} : (∀ k, k < l.length → co (lev l) k = 0) ↔ ∀ k, k < l.length → co l k = 0 := by
  have p : ∀ k, ((fc k : Nat) : Int) ≠ 0 := fun k => by have := fc_pos k; omega
  constructor
  · intro h k hk
    have := h k hk
    rw [co_lev hk] at this
    exact (Int.mul_eq_zero.mp this).resolve_left (Int.mul_ne_zero (p _) (p _))
  · intro h k hk
    rw [co_lev hk, h k hk, Int.mul_zero]
theorem S_ext {f : Nat → Int} {n : Nat} : ∀ {N : Nat}, n ≤ N → (∀ i, n ≤ i → f i = 0) → S N f = S n f
  | 0, h, _ => by
    have : n = 0 := by omega
    rw [this]
  | N + 1, h, hz => by
    by_cases c : n = N + 1
    · rw [c]
    · show S N f + f N = _
      rw [hz N (by omega), Int.add_zero, S_ext (by omega) hz]
theorem S_head (f : Nat → Int) (n : Nat) : S (n + 1) f = f 0 + S n fun i => f (i + 1) := by
  rw [S_skip f 0 n (Nat.zero_le _)]
  rfl
theorem conv_aux {m : List Int} : ∀ (l : List Int) (g : Nat → Int) (N : Nat), l.length + m.length ≤ N + 1 → S N (fun c => cv l (co m) c * g c) = S l.length fun a => co l a * S m.length fun b => co m b * g (a + b)
  | [], g, N, _ => by
    rw [S_zero fun i _ => by rw [cv_nil, Int.zero_mul]]
    rfl
  | x :: xs, g, N, h => by
    have hm : m.length ≤ N := by rw [List.length_cons] at h; omega
    have e1 : S m.length (fun b => co m b * g (0 + b)) = S N fun b => co m b * g b := by
      rw [S_ext (f := fun b => co m b * g b) hm fun i hi => by rw [co_far hi, Int.zero_mul]]
      exact S_congr fun b _ => by rw [Nat.zero_add]
    rw [List.length_cons, S_head]
    show _ = x * _ + S xs.length fun i => co xs i * S m.length fun b => co m b * g (i + 1 + b)
    rw [e1, ← S_mul]
    have e2 : (S xs.length fun i => co xs i * S m.length fun b => co m b * g (i + 1 + b)) = S xs.length fun i => co xs i * S m.length fun b => co m b * (fun c => g (c + 1)) (i + b) := S_congr fun i _ => by
      congr 1
      exact S_congr fun b _ => by
        show co m b * g (i + 1 + b) = co m b * g (i + b + 1)
        congr 2
        omega
    rw [e2]
    cases N with
    | zero =>
      rw [List.length_cons] at h
      have hx : xs = [] := List.eq_nil_of_length_eq_zero (by omega)
      subst hx
      rfl
    | succ N =>
      rw [← conv_aux xs (fun c => g (c + 1)) N (by rw [List.length_cons] at h; omega), S_head, S_head, cv_zero]
      have e3 : (S N fun i => cv (x :: xs) (co m) (i + 1) * g (i + 1)) = S N (fun i => x * (co m (i + 1) * g (i + 1))) + S N fun c => cv xs (co m) c * (fun c => g (c + 1)) c := by
        rw [← S_add]
        exact S_congr fun i _ => by rw [cv_succ, Int.add_mul, Int.mul_assoc]
      rw [e3, ← Int.mul_assoc, Int.add_assoc]
theorem conv {l m : List Int} (hm : m ≠ []) (g : Nat → Int) : S (ml l m).length (fun c => co (ml l m) c * g c) = S l.length fun a => co l a * S m.length fun b => co m b * g (a + b) := by
  rw [← conv_aux l g (ml l m).length (by rw [ml_len]; omega)]
  exact S_congr fun c _ => by rw [co_ml hm]
/-- the rows of the level table -/
def lrow (l : List Int) (d at_ : Nat) : List Int := tb (d + 1) fun a => co (lev l) (at_ + a)
def lrows (l : List Int) (d : Nat) : List (List Int) := (List.range (l.length - d)).map (lrow l d)
theorem lrow_len (l : List Int) (d at_ : Nat) : (lrow l d at_).length = d + 1 := tb_len _ _
end K65

set_option Elab.async false
set_option linter.all false
set_option maxRecDepth 100000
set_option maxHeartbeats 2000000
set_option exponentiation.threshold 10000
/-! killers: kernels of level tables -/
namespace K65
open PySem PySem.Spec PyProof.Rows L2 FDivQ LA
theorem gl_primE (l : List Int) : gl (primE l) ≤ 1 := by
  by_cases c : gl l = 0
  · unfold primE
    rw [if_pos c, c]
    exact Nat.zero_le _
  · have q : gl l * gl (primE l) ∣ gl l := dvd_glc fun k _ => by
      have e := prim_ex l k
      have hp : (pf l).natAbs = gl l := by
        unfold pf
        rw [if_neg c]
        split <;> omega
      rw [← e, Int.natAbs_mul, hp]
      exact Nat.mul_dvd_mul_left _ (gl_dvdc _ _)
    have h1 : gl (primE l) ∣ 1 := Nat.dvd_of_mul_dvd_mul_left (Nat.pos_of_ne_zero c) (by rw [Nat.mul_one]; exact q)
    exact Nat.le_of_eq (Nat.dvd_one.mp h1)
theorem told_heads {le : List Int → List Int → Nat → List Int} (hle : LeP le) {w : Nat} {rows : List (List Int)} (hw : ∀ r ∈ rows, r.length = w) : ∃ Hh : List (List Int), Hh.length = (ech le rows w).length ∧ (∀ x ∈ Hh, x ∈ rows) ∧ ∀ t ∈ ech le rows w, SpM w Hh t := by
  obtain ⟨Hh, P, I⟩ := inv hle hw w (Nat.le_refl _)
  refine ⟨Hh, by unfold ech; rw [List.length_map]; exact I.hl, I.hr, fun t ht => ?_⟩
  obtain ⟨r, hr, rfl⟩ := List.mem_map.mp ht
  exact SpM.mul (c := pf r) (α := 1) (pf_ne r) (I.ff r hr) fun j _ => by rw [prim_ex, Int.one_mul]
theorem ech_len_le (le : List Int → List Int → Nat → List Int) (rows : List (List Int)) (n : Nat) : (ech le rows n).length ≤ rows.length := by
  unfold ech
  rw [List.length_map]
  have := eS_cnt le rows n
  omega
theorem Told.le_n {n M : Nat} {rows T : List (List Int)} (h : Told n M rows T) : T.length ≤ n := by
  refine Classical.byContradiction fun c => ?_
  obtain ⟨y, ⟨i, hi, hy⟩, he⟩ := dep n T.length (row T) (by omega)
  exact hy (h.base.ind y he i hi)
def kern (rows : List (List Int)) (n : Nat) : List (List Int) := ech less (kvs (ech less rows n) n) n
/-- all of a kernel -/
structure KA (rows : List (List Int)) (w : Nat) : Prop where
  e : EOk less rows w
  t : ∀ t ∈ ech less rows w, t.length = w ∧ ld t < w
  k : KOk (ech less rows w)
  e2 : EOk less (kvs (ech less rows w) w) w
  len : ∀ k ∈ kern rows w, k.length = w
  dot : ∀ k ∈ kern rows w, ∀ r ∈ rows, S w (fun j => co k j * co r j) = 0
  bd : ∀ k ∈ kern rows w, ∀ j, (co k j).natAbs < 2 ^ 1500
  cnt : (kern rows w).length ≤ w
  sh : w ≤ 4 → ∀ k ∈ kern rows w, ∀ j, (co k j).natAbs < 10 ^ 60
end K65

set_option Elab.async false
set_option linter.all false
set_option maxRecDepth 100000
set_option maxHeartbeats 2000000
/-! kernels without bounds; the ranks of level tables -/
namespace K65
open PySem PySem.Spec PyProof.Rows L2 FDivQ LA
structure KS (rows : List (List Int)) (w : Nat) : Prop where
  len : ∀ k ∈ kern rows w, k.length = w
  dot : ∀ k ∈ kern rows w, ∀ r ∈ rows, S w (fun j => co k j * co r j) = 0
  ind : Ind w (kern rows w).length (row (kern rows w))
  all : ∀ y : Nat → Int, (∀ r ∈ rows, S w (fun j => y j * co r j) = 0) → Sp w (kern rows w).length (row (kern rows w)) y
  cnt : (ech less rows w).length + (kern rows w).length = w
  nz : ∀ k ∈ kern rows w, co k (ld k) ≠ 0
  lt : ∀ k ∈ kern rows w, ld k < w
  gl : ∀ k ∈ kern rows w, gl k ≤ 1
  base : ∃ n E, Base w rows.length (row rows) (ech less rows w).length E ∧ n = (ech less rows w).length
theorem ks {rows : List (List Int)} {w : Nat} (hw : ∀ r ∈ rows, r.length = w) : KS rows w := by
  have hT := told lePP (M := nm rows.flatten) hw fun r hr x hx => nm_mem (List.mem_flatten.mpr ⟨r, hr, hx⟩)
  have hg := gl_primE
  have hb := hT.base
  unfold kern at *
  generalize hTl : ech less rows w = T at hT hb
  have kv1 := kv hT
  have cnt := frees_cnt hT.lt hT.nodup
  have kl : ∀ r ∈ kvs T w, r.length = w := fun r hr => by
    obtain ⟨f, _, rfl⟩ := List.mem_map.mp hr
    exact kone_len _ _ _
  have kc : (kvs T w).length = (frees T w).length := List.length_map ..
  have hK := told lePP (M := nm (kvs T w).flatten) kl fun r hr x hx => nm_mem (List.mem_flatten.mpr ⟨r, hr, hx⟩)
  have fg : ∀ i, i < (kvs T w).length → (frees T w).getD i 0 ∈ frees T w ∧ row (kvs T w) i = co (kone T w ((frees T w).getD i 0)) := fun i hi => by
    rw [kc] at hi
    refine ⟨by rw [List.getD_eq_getElem?_getD, List.getElem?_eq_getElem hi]; exact List.getElem_mem hi, ?_⟩
    unfold row kvs
    rw [List.getD_eq_getElem?_getD, List.getD_eq_getElem?_getD, List.getElem?_map, List.getElem?_eq_getElem hi]
    rfl
  have nd : (frees T w).Nodup := List.nodup_range.filter _
  have fne : ∀ i k, i < (kvs T w).length → k < (kvs T w).length → k ≠ i → (frees T w).getD i 0 ≠ (frees T w).getD k 0 := fun i k hi hk hne e => by
    rw [kc] at hi hk
    rw [List.getD_eq_getElem?_getD, List.getD_eq_getElem?_getD, List.getElem?_eq_getElem hi, List.getElem?_eq_getElem hk] at e
    exact hne ((List.getElem_inj nd).mp e).symm
  have ind : Ind w (kvs T w).length (row (kvs T w)) := by
    refine Ech.ind (lead := fun i => (frees T w).getD i 0) ⟨fun i hi => frees_lt (fg i hi).1, fun i hi => ?_, fun i k hi hk hne => ?_⟩
    · rw [(fg i hi).2, kv1.free _ (fg i hi).1 _ (fg i hi).1, if_pos rfl]
      exact kv1.nz
    · rw [(fg k hk).2, kv1.free _ (fg k hk).1 _ (fg i hi).1, if_neg (fne i k hi hk hne)]
  have kcount : (ech less (kvs T w) w).length = (kvs T w).length := hK.base.ind_all ind
  have perpT : ∀ k ∈ ech less (kvs T w) w, ∀ t ∈ T, S w (fun j => co t j * co k j) = 0 := fun k hk t ht => by
    obtain ⟨i, hi, ei⟩ := row_mem hk
    have s1 := hK.base.of i hi
    rw [ei] at s1
    refine s1.perp fun a ha => ?_
    rw [(fg a ha).2]
    have e2 : S w (fun j => co t j * co (kone T w ((frees T w).getD a 0)) j) = S w (fun j => co (kone T w ((frees T w).getD a 0)) j * co t j) := S_congr fun j _ => Int.mul_comm _ _
    rw [e2]
    exact kv1.dot _ (fg a ha).1 t ht
  have dots : ∀ k ∈ ech less (kvs T w) w, ∀ r ∈ rows, S w (fun j => co k j * co r j) = 0 := fun k hk r hr => by
    obtain ⟨b, hb, eb⟩ := row_mem hr
    have s2 := hT.base.to b hb
    rw [eb] at s2
    refine s2.perp fun c hc => ?_
    have := perpT k hk _ (mem_row hc)
    rw [← this]
    exact S_congr fun j _ => Int.mul_comm _ _
  have all : ∀ y : Nat → Int, (∀ r ∈ rows, S w (fun j => y j * co r j) = 0) → Sp w (ech less (kvs T w) w).length (row (ech less (kvs T w) w)) y := fun y hy => by
    have yT : ∀ t ∈ T, S w (fun j => y j * co t j) = 0 := fun t ht => by
      obtain ⟨i, hi, ei⟩ := row_mem ht
      have s1 := hT.base.of i hi
      rw [ei] at s1
      exact s1.perp fun a ha => hy _ (mem_row ha)
    have sv : Sp w (kvs T w).length (row (kvs T w)) y := by
      refine ⟨whl T, kv1.nz, fun i => y ((frees T w).getD i 0), fun j hj => ?_⟩
      have zf : ∀ g ∈ frees T w, whl T * y g - S (kvs T w).length (fun i => y ((frees T w).getD i 0) * row (kvs T w) i g) = 0 := fun g hg => by
        obtain ⟨b, hb, eb⟩ := List.mem_iff_getElem.mp hg
        have eb2 : (frees T w).getD b 0 = g := by rw [List.getD_eq_getElem?_getD, List.getElem?_eq_getElem hb, eb]; rfl
        rw [S_one (p := b) (by omega) fun i hi hne => ?_]
        · rw [(fg b (by omega)).2, eb2, kv1.free g hg g hg, if_pos rfl, Int.mul_comm, Int.sub_self]
        · rw [(fg i hi).2, kv1.free _ (fg i hi).1 g hg, if_neg fun e => ?_, Int.mul_zero]
          exact fne i b hi (by omega) (Ne.symm hne) (by rw [eb2]; exact e.symm)
      by_cases c : ∃ t ∈ T, ld t = j
      · obtain ⟨t, ht, et⟩ := c
        have tz : S w (fun j => (whl T * y j - S (kvs T w).length (fun i => y ((frees T w).getD i 0) * row (kvs T w) i j)) * co t j) = 0 := by
          have e : S w (fun j => (whl T * y j - S (kvs T w).length (fun i => y ((frees T w).getD i 0) * row (kvs T w) i j)) * co t j) = whl T * S w (fun j => y j * co t j) + (-1) * S w (fun j => S (kvs T w).length fun i => y ((frees T w).getD i 0) * (row (kvs T w) i j * co t j)) := by
            rw [← S_mul, ← S_mul, ← S_add]
            refine S_congr fun j _ => ?_
            have e3 : S (kvs T w).length (fun i => y ((frees T w).getD i 0) * (row (kvs T w) i j * co t j)) = S (kvs T w).length (fun i => y ((frees T w).getD i 0) * row (kvs T w) i j) * co t j := by
              rw [← S_mulr]
              exact S_congr fun i _ => by rw [Int.mul_assoc]
            rw [e3]
            grind
          rw [e, yT t ht, S_swap, S_zero fun i hi => ?_]
          · rw [Int.mul_zero, Int.mul_zero]
            rfl
          · rw [S_mul, (fg i hi).2, kv1.dot _ (fg i hi).1 t ht, Int.mul_zero]
        obtain ⟨A, C, es, hC, hz⟩ := hT.split ht
        rw [S_one (p := ld t) (hT.lt t ht) fun i hi hne => ?_] at tz
        · rw [et] at tz
          rcases Int.mul_eq_zero.mp tz with q | q
          · exact Int.sub_eq_zero.mp q
          · exact absurd (et ▸ q) (hT.nz t ht)
        · by_cases d : ∃ u ∈ T, ld u = i
          · obtain ⟨u, hu, eu⟩ := d
            rw [← eu, hz u hu fun z => hne (by rw [← eu, z]), Int.mul_zero]
          · rw [zf i (mem_frees.mpr ⟨hi, fun u hu e => d ⟨u, hu, e⟩⟩), Int.zero_mul]
      · exact Int.sub_eq_zero.mp (zf j (mem_frees.mpr ⟨hj, fun u hu e => c ⟨u, hu, e⟩⟩))
    exact sv.trans hK.base.to
  refine ⟨?_, ?_, ?_, ?_, ?_, ?_, ?_, ?_, ?_⟩ <;> (try unfold kern) <;> rw [hTl]
  · exact hK.len
  · exact dots
  · exact hK.base.ind
  · exact all
  · rw [kcount, kc]
    omega
  · exact hK.nz
  · exact hK.lt
  · intro k hk
    obtain ⟨z, _, rfl⟩ := List.mem_map.mp hk
    exact hg z
  · exact ⟨_, _, hb, rfl⟩
theorem _root_.LA.Base.congrE {w n r : Nat} {A A' E : Nat → Nat → Int} (h : Base w n A r E) (e : ∀ i, i < n → ∀ j, j < w → A i j = A' i j) : Base w n A' r E :=
  ⟨h.ind, fun k hk => by
    obtain ⟨c, hc, a, ha⟩ := h.of k hk
    exact ⟨c, hc, a, fun j hj => by rw [ha j hj]; exact S_congr fun i hi => by rw [e i hi j hj]⟩, fun i hi => Sp.div (c := 1) (by decide) (h.to i hi) fun j hj => by rw [Int.one_mul, e i hi j hj]⟩
theorem leastE {p : Nat → Prop} : ∀ n, p n → ∃ m, p m ∧ ∀ j, j < m → ¬ p j := fun n => by
  induction n using Nat.strongRecOn with
  | ind n ih =>
    intro h
    by_cases c : ∃ j, j < n ∧ p j
    · obtain ⟨j, hj, pj⟩ := c
      exact ih j hj pj
    · exact ⟨n, h, fun j hj pj => c ⟨j, hj, pj⟩⟩
/-! ### level tables -/
def rk (l : List Int) (d : Nat) : Nat := (ech less (lrows l d) (d + 1)).length
def kd (l : List Int) (d : Nat) : Nat := (kern (lrows l d) (d + 1)).length
theorem lrows_w {l : List Int} {d : Nat} : ∀ r ∈ lrows l d, r.length = d + 1 := fun r hr => by
  obtain ⟨k, _, rfl⟩ := List.mem_map.mp hr
  exact lrow_len _ _ _
theorem lrows_len (l : List Int) (d : Nat) : (lrows l d).length = l.length - d := by
  unfold lrows
  rw [List.length_map, List.length_range]
theorem row_lrows {l : List Int} {d i j : Nat} (hi : i < l.length - d) (hj : j < d + 1) : row (lrows l d) i j = co (lev l) (i + j) := by
  unfold row lrows
  rw [List.getD_eq_getElem?_getD, List.getElem?_map, List.getElem?_range hi]
  show co (lrow l d i) j = _
  unfold lrow
  rw [co_tb, if_pos hj]
theorem rk_kd (l : List Int) (d : Nat) : rk l d + kd l d = d + 1 := (ks lrows_w).cnt
/-- the same rank from both ends -/
theorem rk_turn {l : List Int} {d : Nat} (h : d < l.length) : rk l (l.length - 1 - d) = rk l d := by
  obtain ⟨_, E, b, _⟩ := (ks (lrows_w (l := l) (d := d))).base
  obtain ⟨_, E', b', _⟩ := (ks (lrows_w (l := l) (d := l.length - 1 - d))).base
  rw [lrows_len] at b b'
  have e1 : l.length - (l.length - 1 - d) = d + 1 := by omega
  have e2 : l.length - 1 - d + 1 = l.length - d := by omega
  rw [e1] at b'
  have b2 : Base (l.length - 1 - d + 1) (d + 1) (fun j i => row (lrows l d) i j) (rk l (l.length - 1 - d)) E' := b'.congrE fun i hi j hj => by
    rw [row_lrows (by omega) hj, row_lrows (by omega) hi, Nat.add_comm]
  rw [e2] at b2
  exact (b.turned b2).symm
theorem Spm_z {w n : Nat} {A : Nat → Nat → Int} : n = 0 → ∀ v, Sp w n A v → ∀ j, j < w → v j = 0 := fun h v s j hj => by
  obtain ⟨c, hc, a, ha⟩ := s
  have := ha j hj
  rw [h] at this
  exact (Int.mul_eq_zero.mp this).resolve_left hc
/-- a form of a degree kills -/
def Kl (l : List Int) (d : Nat) (f : Nat → Int) : Prop := ∀ i, i < l.length - d → S (d + 1) (fun a => f a * co (lev l) (i + a)) = 0
theorem kl_rows {l : List Int} {d : Nat} {f : Nat → Int} : Kl l d f ↔ ∀ r ∈ lrows l d, S (d + 1) (fun j => f j * co r j) = 0 := by
  have e : ∀ i, S (d + 1) (fun j => f j * co (lrow l d i) j) = S (d + 1) (fun a => f a * co (lev l) (i + a)) := fun i => S_congr fun j hj => by
    unfold lrow
    rw [co_tb, if_pos hj]
  constructor
  · intro h r hr
    obtain ⟨i, hi, rfl⟩ := List.mem_map.mp hr
    rw [e]
    exact h i (List.mem_range.mp hi)
  · intro h i hi
    rw [← e]
    exact h _ (List.mem_map.mpr ⟨i, List.mem_range.mpr hi, rfl⟩)
/-- times x, times y -/
def tx (d : Nat) (f : Nat → Int) : Nat → Int := fun j => if j < d + 1 then f j else 0
def ty (f : Nat → Int) : Nat → Int
  | 0 => 0
  | j + 1 => f j
theorem kl_tx {l : List Int} {d : Nat} {f : Nat → Int} (h : Kl l d f) : Kl l (d + 1) (tx d f) := fun i hi => by
  show S (d + 1) _ + tx d f (d + 1) * _ = 0
  rw [show tx d f (d + 1) = 0 from if_neg (by omega), Int.zero_mul, Int.add_zero, ← h i (by omega)]
  exact S_congr fun a ha => by rw [show tx d f a = f a from if_pos ha]
theorem kl_ty {l : List Int} {d : Nat} {f : Nat → Int} (h : Kl l d f) : Kl l (d + 1) (ty f) := fun i hi => by
  rw [S_head]
  show 0 * _ + S (d + 1) (fun a => f a * co (lev l) (i + (a + 1))) = 0
  rw [Int.zero_mul, Int.zero_add, ← h (i + 1) (by omega)]
  exact S_congr fun a _ => by rw [show i + (a + 1) = i + 1 + a by omega]
theorem kl_kern {l : List Int} {d i : Nat} (hi : i < kd l d) : Kl l d (row (kern (lrows l d) (d + 1)) i) := kl_rows.mpr fun r hr => (ks lrows_w).dot _ (mem_row hi) r hr
theorem kl_sp {l : List Int} {d : Nat} {f : Nat → Int} (h : Kl l d f) : Sp (d + 1) (kd l d) (row (kern (lrows l d) (d + 1))) f := (ks lrows_w).all f (kl_rows.mp h)
/-- one degree more, one killer more -/
theorem kd_step {l : List Int} {d : Nat} (h : 0 < kd l d) : kd l d + 1 ≤ kd l (d + 1) := by
  have K := ks (lrows_w (l := l) (d := d))
  have ind := K.ind
  -- the least place at which a killer is not 0
  have ex : ∃ m, ∃ i, i < kd l d ∧ row (kern (lrows l d) (d + 1)) i m ≠ 0 := ⟨_, 0, h, K.nz _ (mem_row h)⟩
  obtain ⟨m, ⟨i0, hi0, hm⟩, least⟩ : ∃ m, (∃ i, i < kd l d ∧ row (kern (lrows l d) (d + 1)) i m ≠ 0) ∧ ∀ j, j < m → ∀ i, i < kd l d → row (kern (lrows l d) (d + 1)) i j = 0 := by
    obtain ⟨n, hn⟩ := ex
    obtain ⟨m, hm, hl⟩ := leastE (p := fun m => ∃ i, i < kd l d ∧ row (kern (lrows l d) (d + 1)) i m ≠ 0) n hn
    exact ⟨m, hm, fun j hj i hi => Classical.byContradiction fun c => hl j hj ⟨i, hi, c⟩⟩
  generalize hB : row (kern (lrows l d) (d + 1)) = B at hm least ind
  have kB : ∀ i, i < kd l d → Kl l d (B i) := fun i hi => by
    rw [← hB]
    exact kl_kern hi
  have m1 : m < d + 1 := by
    refine Classical.byContradiction fun c => hm ?_
    rw [← hB]
    exact co_far (by rw [K.len _ (mem_row hi0)]; omega)
  let A : Nat → Nat → Int := fun i => if i < kd l d then ty (B i) else tx d (B i0)
  refine steinitz (w := d + 1 + 1) (A := A) (fun a ha => ?_) (B := row (kern (lrows l (d + 1)) (d + 1 + 1))) fun i hi => ?_
  · have hA : ∀ j, S (kd l d) (fun i => a i * A i j) = S (kd l d) (fun i => a i * ty (B i) j) := fun j => S_congr fun i hi => by
      show a i * (if i < kd l d then ty (B i) else tx d (B i0)) j = _
      rw [if_pos hi]
    have hA2 : ∀ j, A (kd l d) j = tx d (B i0) j := fun j => by
      show (if kd l d < kd l d then ty (B (kd l d)) else tx d (B i0)) j = _
      rw [if_neg (Nat.lt_irrefl _)]
    have hz : ∀ j, j < d + 1 + 1 → S (kd l d) (fun i => a i * ty (B i) j) + a (kd l d) * tx d (B i0) j = 0 := fun j hj => by
      have := ha j hj
      rw [← hA, ← hA2]
      exact this
    have last : a (kd l d) = 0 := by
      have e := hz m (by omega)
      rw [S_zero fun i hi => ?_, Int.zero_add, show tx d (B i0) m = B i0 m from if_pos m1] at e
      · exact (Int.mul_eq_zero.mp e).resolve_right hm
      · cases m with
        | zero => exact Int.mul_zero _
        | succ j =>
          show a i * B i j = 0
          rw [least j (Nat.lt_succ_self j) i hi, Int.mul_zero]
    have rest : ∀ i, i < kd l d → a i = 0 := ind a fun j hj => by
      have e := hz (j + 1) (by omega)
      rw [last, Int.zero_mul, Int.add_zero] at e
      exact e
    intro i hi
    by_cases c : i < kd l d
    · exact rest i c
    · rw [show i = kd l d by omega, last]
  · refine kl_sp ?_
    show Kl l (d + 1) (if i < kd l d then ty (B i) else tx d (B i0))
    by_cases c : i < kd l d
    · rw [if_pos c]
      exact kl_ty (kB i c)
    · rw [if_neg c]
      exact kl_tx (kB i0 hi0)
end K65

set_option Elab.async false
set_option linter.all false
set_option maxRecDepth 100000
set_option maxHeartbeats 2000000
/-! the ranks of all level tables -/
namespace K65
open PySem PySem.Spec PyProof.Rows L2 FDivQ LA
theorem arith {N : Nat} {h k : Nat → Nat} (hN : 1 ≤ N) (hk : ∀ d, h d + k d = d + 1) (st : ∀ d, 0 < k d → k d + 1 ≤ k (d + 1)) (sy : ∀ d, d < N → h (N - 1 - d) = h d) (le : ∀ d, h d ≤ N - d) (k0 : k 0 = 0) :
    ∃ r, 1 ≤ r ∧ 2 * r ≤ N + 1 ∧ (∀ d, d < r → k d = 0) ∧ 0 < k r ∧ (∀ d, r ≤ d → 0 < k d) ∧ ∀ d, d < N → h d = min (d + 1) (min r (N - d)) := by
  obtain ⟨r, hr, hl⟩ := leastE (p := fun d => 0 < k d) N (by have := hk N; have := le N; show 0 < k N; omega)
  have lo : ∀ d, d < r → k d = 0 := fun d hd => by have := hl d hd; omega
  have r1 : 1 ≤ r := by
    rcases Nat.eq_zero_or_pos r with z | z
    · rw [z, k0] at hr
      exact absurd hr (Nat.lt_irrefl _)
    · exact z
  have pos : ∀ e, 0 < k (r + e) := fun e => by
    induction e with
    | zero => exact hr
    | succ e ih =>
      have := st _ ih
      rw [← Nat.add_assoc]
      omega
  have step : ∀ d, r - 1 ≤ d → h (d + 1) ≤ h d := fun d hd => by
    have a1 := hk d
    have a2 := hk (d + 1)
    by_cases c : r ≤ d
    · have := st d (by have := pos (d - r); rw [show r + (d - r) = d by omega] at this; exact this)
      omega
    · have e : d = r - 1 := by omega
      have := lo d (by omega)
      have p := pos 0
      rw [Nat.add_zero, show r = d + 1 by omega] at p
      omega
  have mono : ∀ e d, r - 1 ≤ d → h (d + e) ≤ h d := fun e => by
    induction e with
    | zero => exact fun d _ => Nat.le_refl _
    | succ e ih =>
      intro d hd
      have := ih d hd
      have := step (d + e) (by omega)
      rw [← Nat.add_assoc]
      omega
  have low : ∀ d, d < r → h d = d + 1 := fun d hd => by
    have := hk d
    have := lo d hd
    omega
  have r2 : 2 * r ≤ N + 1 := by
    have := low (r - 1) (by omega)
    have := le (r - 1)
    omega
  refine ⟨r, r1, r2, lo, hr, fun d hd => by have := pos (d - r); rw [show r + (d - r) = d by omega] at this; exact this, fun d hd => ?_⟩
  have lr := low (r - 1) (by omega)
  by_cases c1 : d < r
  · have := low d c1
    have := le d
    omega
  · by_cases c2 : d ≤ N - r
    · have u := mono (d - (r - 1)) (r - 1) (Nat.le_refl _)
      rw [show r - 1 + (d - (r - 1)) = d by omega] at u
      have v := mono (N - r - d) d (by omega)
      rw [show d + (N - r - d) = N - 1 - (r - 1) by omega, sy (r - 1) (by omega)] at v
      omega
    · have u := sy d hd
      have := low (N - 1 - d) (by omega)
      omega
theorem lev_ne {l : List Int} (h : ∃ k, k < l.length ∧ co l k ≠ 0) : ∃ k, k < l.length ∧ co (lev l) k ≠ 0 := Classical.byContradiction fun c => by
  obtain ⟨k, hk, hz⟩ := h
  exact hz (lev_zero.mp (fun j hj => Classical.byContradiction fun q => c ⟨j, hj, q⟩) k hk)
theorem kd_zero {l : List Int} (h : ∃ k, k < l.length ∧ co l k ≠ 0) : kd l 0 = 0 := by
  rcases Nat.eq_zero_or_pos (kd l 0) with z | z
  · exact z
  · exfalso
    obtain ⟨k, hk, hz⟩ := lev_ne h
    have K := ks (lrows_w (l := l) (d := 0))
    have e := kl_kern z k (by omega)
    have n := K.nz _ (mem_row z)
    have lt := K.lt _ (mem_row z)
    have l0 : ld ((kern (lrows l 0) (0 + 1)).getD 0 []) = 0 := by omega
    rw [l0] at n
    have e : 0 + row (kern (lrows l 0) (0 + 1)) 0 0 * co (lev l) (k + 0) = 0 := e
    rw [Int.zero_add] at e
    exact (Int.mul_eq_zero.mp e).elim n hz
theorem profile {l : List Int} (h1 : 1 ≤ l.length) (h : ∃ k, k < l.length ∧ co l k ≠ 0) :
    ∃ r, 1 ≤ r ∧ 2 * r ≤ l.length + 1 ∧ (∀ d, d < r → kd l d = 0) ∧ 0 < kd l r ∧ (∀ d, r ≤ d → 0 < kd l d) ∧ ∀ d, d < l.length → rk l d = min (d + 1) (min r (l.length - d)) :=
  arith h1 (rk_kd l) (fun d => kd_step) (fun d hd => rk_turn hd) (fun d => by
    have := ech_len_le less (lrows l d) (d + 1)
    rw [lrows_len] at this
    exact this) (kd_zero h)
theorem rk_zero {l : List Int} (h : ∀ k, co l k = 0) (d : Nat) : rk l d = 0 := by
  -- all unit rows are killers
  have K := ks (lrows_w (l := l) (d := d))
  have hl : ∀ k, co (lev l) k = 0 := fun k => by
    by_cases c : k < l.length
    · exact lev_zero.mpr (fun j _ => h j) k c
    · exact co_far (by rw [lev_len]; omega)
  have ge : d + 1 ≤ kd l d := by
    refine steinitz (w := d + 1) (n := d + 1) (A := fun i j => if j = i then 1 else 0) (fun a ha i hi => ?_) (B := row (kern (lrows l d) (d + 1))) fun i hi => kl_sp fun j hj => S_zero fun a _ => by rw [hl, Int.mul_zero]
    have e : S (d + 1) (fun k => a k * (if i = k then 1 else 0)) = 0 := ha i hi
    rw [S_one (p := i) hi fun j hj hne => by rw [if_neg fun z => hne z.symm, Int.mul_zero]] at e
    rw [if_pos rfl, Int.mul_one] at e
    exact e
  have := rk_kd l d
  omega
end K65

set_option Elab.async false
set_option linter.all false
set_option maxRecDepth 100000
set_option maxHeartbeats 4000000
set_option exponentiation.threshold 10000
/-! walks: level entries and level rows -/
namespace K65
open PySem PySem.Spec PyProof.Rows L2 StX RZ MyR SlX OwnR OwnF EnumT GxR GenNx FDivQ LA
theorem fc_le : ∀ n, n ≤ 8 → fc n ≤ 40320 := by decide
theorem fc2_le : ∀ n, n ≤ 8 → ∀ i, i ≤ n → fc i * fc (n - i) ≤ 40320 := by decide
theorem sm_small {x : Int} (h : x.natAbs ≤ 2 ^ 40) : sm x := Nat.lt_of_le_of_lt h (by decide +kernel)
theorem ints1 {i j : Int} (h : i = j) : [V.int i] = [V.int j] := by rw [h]
theorem RT.same {H H' : Hp} {as : List Addr} {rs : List (List Int)} (h : RT H as rs) (s : Same H H') : RT H' as rs := RX.imp (fun a r e => s _ _ e) h
theorem RT.updL {H : Hp} {D : Addr} {o : HO} {xs : List V} {as : List Addr} {rs : List (List Int)} (h : RT H as rs) (hD : H D = some (.lst xs)) : RT (L2.upd H D o) as rs :=
  RX.imp (fun a r e => by rw [upd_ne (fun z => by rw [z, hD] at e; cases e)]; exact e) h
theorem RT.updN {H : Hp} {D : Addr} {o : HO} {as : List Addr} {rs : List (List Int)} (h : RT H as rs) (hn : ∀ a ∈ as, a ≠ D) : RT (L2.upd H D o) as rs := RX.impM (fun a ha r e => by rw [upd_ne (hn a ha)]; exact e) h
/-- a comprehension over a list of rows that makes a row of each -/
theorem lc_rowsT {K : PySem.W.Frag} {a : Addr} {fs : List Addr} {R : List (List Int)} {f : List Int → List Int} {te : TE} {σ : L2.St} {k : Nat} {H1 : Hp} {D : Addr} {Qd : Hp → Prop} (hD : H1 D = none) (ha : H1 a = some (.lst (fs.map V.ref))) (hR : RR H1 fs R) (hl : R.length ≤ 100)
    (hw : ∀ x, wipe ((wipe σ [k]).set k (some x)) [k] = wipe σ [k])
    (hte : ∀ (ad : Addr) (r : List Int) (H2 : Hp) (Q : VK), r ∈ R → Same H1 H2 → H2 ad = some (ls r) → (∀ q H3, Same H2 H3 → H3 q = some (tp (f r)) → Q (.ref q) H3) → te ((wipe σ [k]).set k (some (.ref ad))) H2 Q)
    (hd : ∀ bs H6, Same H1 H6 → H6 D = some (.lst (bs.map V.ref)) → RT H6 bs (R.map f) → Qd H6) :
    ∃ W : Nat → Nat → Hp → Prop, (∃ m, W 0 m (upd H1 D (.lst []))) ∧ ∀ i m H, W i m H →
      ((Itl K a).stop i H ∧ Qd H) ∨ ((Itl K a).go i H ∧ ∃ Nx : Hp → Prop, (∀ H', Nx H' → ∃ m', m' < m ∧ W (i + 1) m' H') ∧ ∀ x H', (Itl K a).yld i H x H' → gName k x (wipe σ [k]) H' fun σ2 H2 => wipe σ2 [k] = wipe σ [k] ∧ tYes σ2 H2 fun b H3 =>
        if b = true then te σ2 H3 fun y H4 => ∃ acc, H4 D = some (.lst acc) ∧ acc.length < sizeLine ∧ Nx (upd H4 D (.lst (acc ++ [y]))) else Nx H3) := by
  refine lc_list (xs := fs.map V.ref) (fun j H' => ∃ bs, Same H1 H' ∧ H' D = some (.lst (bs.map V.ref)) ∧ bs.length = j ∧ RT H' bs ((R.take j).map f)) ⟨[], same_upd0 hD, upd_same, rfl, True.intro⟩ (fun j H' _ hP => SqL.of (hP.choose_spec.1 _ _ ha)) (fun j x H' hx hP => ?_) (fun H' hP => ?_)
  · obtain ⟨bs, s1, h1, h2, h3⟩ := hP
    rw [List.getElem?_map] at hx
    obtain ⟨ad, had, rfl⟩ := Option.map_eq_some_iff.mp hx
    obtain ⟨ad', r, e1, e2, e3⟩ := RX.get hR (by rw [← hR.len]; exact (List.getElem?_eq_some_iff.mp had).1)
    rw [had] at e1
    cases e1
    have hj : j < R.length := (List.getElem?_eq_some_iff.mp e2).1
    refine ⟨hw _, ?_⟩
    show te _ _ _
    refine hte ad r H' _ (List.mem_of_getElem? e2) s1 (s1 _ _ e3) fun q H3 s3 e4 => ⟨bs.map V.ref, s3 _ _ h1, ?_, bs ++ [q], fun b o e => ?_, ?_, ?_, ?_⟩
    · rw [List.length_map, h2]
      exact small1000 (by omega)
    · rw [upd_ne (ne_of_none e hD)]
      exact s3 _ _ (s1 _ _ e)
    · rw [upd_same, List.map_append]
      rfl
    · rw [List.length_append, h2]
      rfl
    · rw [List.take_add_one, e2, List.map_append]
      refine RX.snoc (RT.updL (RT.same h3 s3) (s3 _ _ h1)) ?_
      show upd H3 D _ q = _
      by_cases hq : q = D
      · rw [hq, s3 _ _ h1] at e4
        cases e4
      · rw [upd_ne hq]
        exact e4
  · obtain ⟨bs, s1, h1, h2, h3⟩ := hP
    rw [List.length_map, hR.len, List.take_length] at h3
    exact hd bs H' s1 h1 h3
/-- at t a tuple of tuples of ints -/
def Tl2 (H : Hp) (t : Addr) (rows : List (List Int)) : Prop := ∃ as : List Addr, H t = some (.tup (as.map V.ref)) ∧ RT H as rows
theorem Tl2.same {H H' : Hp} {t : Addr} {rows : List (List Int)} (h : Tl2 H t rows) (s : Same H H') : Tl2 H' t rows := by
  obtain ⟨as, h1, h2⟩ := h
  exact ⟨as, s _ _ h1, h2.same s⟩
theorem RT.sts {Ps : List Addr} {H H' : Hp} {as : List Addr} {rs : List (List Int)} (h : RT H as rs) (s : Sts Ps H H') (g : Tg Ps H) : RT H' as rs := RX.imp (fun a r e => s.tup g e) h
theorem Tl2.sts {Ps : List Addr} {H H' : Hp} {t : Addr} {rows : List (List Int)} (h : Tl2 H t rows) (s : Sts Ps H H') (g : Tg Ps H) : Tl2 H' t rows := by
  obtain ⟨as, h1, h2⟩ := h
  exact ⟨as, s.tup g h1, h2.sts s g⟩
/-- a comprehension over range(n) that makes a row of each -/
theorem lc_rangeT {n : Nat} {f : Nat → List Int} {te : TE} {σ : L2.St} {k : Nat} {H1 : Hp} {D : Addr} {Qd : Hp → Prop} (hD : H1 D = none) (hl : n ≤ 100)
    (hw : ∀ x, wipe ((wipe σ [k]).set k (some x)) [k] = wipe σ [k])
    (hte : ∀ (i : Nat) (H2 : Hp) (Q : VK), i < n → Same H1 H2 → (∀ q H3, Same H2 H3 → H3 q = some (tp (f i)) → Q (.ref q) H3) → te ((wipe σ [k]).set k (some (.int (i : Nat)))) H2 Q)
    (hd : ∀ bs H6, Same H1 H6 → H6 D = some (.lst (bs.map V.ref)) → RT H6 bs ((List.range n).map f) → Qd H6) :
    ∃ W : Nat → Nat → Hp → Prop, (∃ m, W 0 m (upd H1 D (.lst []))) ∧ ∀ i m H, W i m H →
      ((Itr 0 n).stop i H ∧ Qd H) ∨ ((Itr 0 n).go i H ∧ ∃ Nx : Hp → Prop, (∀ H', Nx H' → ∃ m', m' < m ∧ W (i + 1) m' H') ∧ ∀ x H', (Itr 0 n).yld i H x H' → gName k x (wipe σ [k]) H' fun σ2 H2 => wipe σ2 [k] = wipe σ [k] ∧ tYes σ2 H2 fun b H3 =>
        if b = true then te σ2 H3 fun y H4 => ∃ acc, H4 D = some (.lst acc) ∧ acc.length < sizeLine ∧ Nx (upd H4 D (.lst (acc ++ [y]))) else Nx H3) := by
  refine lc_range (n := n) (fun j H' => ∃ bs, Same H1 H' ∧ H' D = some (.lst (bs.map V.ref)) ∧ bs.length = j ∧ RT H' bs ((List.range j).map f)) ⟨[], same_upd0 hD, upd_same, rfl, True.intro⟩ (fun j H' hj hP => ?_) (fun H' hP => ?_)
  · obtain ⟨bs, s1, h1, h2, h3⟩ := hP
    rw [Int.zero_add]
    refine ⟨hw _, ?_⟩
    show te _ _ _
    refine hte j H' _ hj s1 fun q H3 s3 e4 => ⟨bs.map V.ref, s3 _ _ h1, ?_, bs ++ [q], fun b o e => ?_, ?_, ?_, ?_⟩
    · rw [List.length_map, h2]
      exact small1000 (by omega)
    · rw [upd_ne (ne_of_none e hD)]
      exact s3 _ _ (s1 _ _ e)
    · rw [upd_same, List.map_append]
      rfl
    · rw [List.length_append, h2]
      rfl
    · rw [List.range_succ, List.map_append]
      have hD3 := s3 _ _ h1
      refine RX.snoc ((h3.same s3).updN fun a ha => ?_) ?_
      · obtain ⟨r, _, e⟩ := RX.memA (h3.same s3) ha
        intro z
        rw [z, hD3] at e
        cases e
      · show upd H3 D _ q = _
        rw [upd_ne fun z => by rw [z, hD3] at e4; cases e4]
        exact e4
  · obtain ⟨bs, s1, h1, h2, h3⟩ := hP
    exact hd bs H' s1 h1 h3
theorem tbs (n : Nat) (f : Nat → Int) : tb (n + 1) f = tb n f ++ [f n] := by
  unfold tb
  rw [List.range_succ, List.map_append]
  rfl
theorem co_dropE (l : List Int) (n k : Nat) : co (l.drop n) k = co l (n + k) := by
  unfold co
  rw [List.getD_eq_getElem?_getD, List.getD_eq_getElem?_getD, List.getElem?_drop]
theorem atI_last {xs : List Int} {n : Nat} (h : xs.length = n + 1) : atI (xs.map V.int) (-1) = some (.int (co xs n)) := by
  have e : ixN (xs.map V.int).length (-1) = some n := by
    unfold ixN
    rw [List.length_map, if_neg (by decide), if_pos (by omega)]
    congr 1
    omega
  unfold atI
  rw [e]
  exact get_int (by omega)
theorem cut_lev {l : List Int} {d at_ : Nat} (h : at_ + d < l.length) : cutV ((lev l).map V.int) (some (at_ : Int)) (some ((at_ : Int) + (d : Int) + 1)) = (lrow l d at_).map V.int := by
  rw [cutV_map, show (at_ : Int) + (d : Int) + 1 = ((at_ + d + 1 : Nat) : Int) by omega, HT.sIx_nat, HT.sIx_nat, lev_len, Nat.min_eq_left (by omega), Nat.min_eq_left (by omega), show at_ + d + 1 - at_ = d + 1 by omega]
  congr 1
  refine co_inj ?_ fun k => ?_
  · rw [List.length_take, List.length_drop, lev_len, lrow_len]
    omega
  · unfold lrow
    rw [co_tb]
    by_cases c : k < d + 1
    · rw [if_pos c, co_take c, co_dropE]
    · rw [if_neg c, co_far]
      rw [List.length_take]
      omega
/-- forms that levels are asked of -/
structure Lw (l : List Int) : Prop where
  l1 : 1 ≤ l.length
  l8 : l.length ≤ 9
  sm : ∀ x ∈ l, x.natAbs < 2 ^ 3900
theorem Lw.smc {l : List Int} (h : Lw l) (k : Nat) : K65.sm (co l k) := by
  by_cases c : k < l.length
  · exact Nat.lt_trans (h.sm _ (co_memE c)) (by decide +kernel)
  · rw [co_far (by omega)]
    exact sm_small (Nat.zero_le _)
section
variable {P : Program} {w : World} {K : PySem.W.Frag} {mg : Str → Option Value} {base : Heap} {Ps : List Addr}
def spFact : Sp := fun vs H Q _ => ∃ n : Nat, vs = [.int n] ∧ n ≤ 8 ∧ Q (.int (fc n : Nat)) H
theorem ok_factorial_of (T : Facts K mg) : FnOk P w K mg base CX0 1 T.f_factorial_of T.fd_factorial_of ["number"] spFact := by
  refine T.F_factorial_of.ok sc_factorial_of (fun vs H Q E h => ?_) (fun cdv A outer s H vs Q E hr h => ?_)
  · obtain ⟨n, rfl, _⟩ := h
    rfl
  · obtain ⟨n, rfl, hn, q⟩ := h
    refine ⟨_, (PSs.nox (pss_cons (ps_set (i := 1) sc_factorial_of.nd rfl (.inl rfl) pe_int)
    (pss_cons (ps_for PassesOwn.never (by rfl) (pi_range2 (by rfl) T.z_range (pa_cons pe_int (pa_cons (pe_op op_add (pv 0) pe_int) pa_nil))) (pg_name (i := 2) sc_factorial_of.nd rfl (.inl rfl))
      (pss_one (ps_aug (i := 1) sc_factorial_of.nd rfl (.inl rfl) (pv 2) AugM.ip_mulW)))
    (pss_one (ps_ret (pv 1)))))), ?_⟩
    refine ⟨_, rfl, _, _, rfl, rfl, 2, (n : Int) + 1, rfl, ⟨by omega, by omega, by omega, by omega⟩, for_range (lo := 2) (n := ((n : Int) + 1 - 2).toNat) (fun i σ H' => ∃ y, σ = [some (.int n), some (.int (fc (i + 1) : Nat)), y] ∧ H' = H) ⟨none, rfl, rfl⟩ (fun i σ H' hi hP => ?_) (fun σ H' hP => ?_)⟩
    · obtain ⟨y, rfl, rfl⟩ := hP
      refine ⟨_, rfl, _, rfl, _, _, rfl, rfl, sm_mul (sm_small ?_) (sm_small ?_), some (.int (2 + (i : Nat))), ?_, rfl⟩
      · have := fc_le (i + 1) (by omega)
        rw [Int.natAbs_natCast]
        exact Nat.le_trans this (by decide)
      · exact Nat.le_trans (show (2 + (i : Int)).natAbs ≤ 100 by omega) (by decide)
      · have e : ((fc (i + 1) : Nat) : Int) * (2 + (i : Int)) = ((fc (i + 1 + 1) : Nat) : Int) := by
          show _ = (((i + 1 + 1) * fc (i + 1) : Nat) : Int)
          rw [Int.natCast_mul, Int.mul_comm]
          congr 1
          omega
        rw [← e]
        rfl
    · obtain ⟨y, rfl, rfl⟩ := hP
      have e : fc (((n : Int) + 1 - 2).toNat + 1) = fc n := by
        rcases Nat.eq_zero_or_pos n with z | z
        · subst z
          rfl
        · congr 1
          omega
      rw [e]
      exact ⟨_, rfl, q⟩
def spLevE : Sp := fun vs H Q _ => ∃ (a : Addr) (l : List Int), vs = [.ref a] ∧ H a = some (tp l) ∧ Lw l ∧ ∀ p H', Same H H' → H' p = some (ls (lev l)) → Q (.ref p) H'
theorem ok_level_entries (T : Facts K mg) : FnOk P w K mg base CX0 2 T.f_level_entries T.fd_level_entries ["entries"] spLevE := by
  have G_factorial_of := ok_factorial_of (P := P) (w := w) (base := base) T
  refine T.F_level_entries.ok sc_level_entries (fun vs H Q E h => ?_) (fun cdv A outer s H vs Q E hr h => ?_)
  · obtain ⟨a, l, rfl, _⟩ := h
    rfl
  · obtain ⟨a, l, rfl, ha, hl, q⟩ := h
    have l1 := hl.l1
    have l8 := hl.l8
    refine ⟨_, (PSs.nox (pss_cons (ps_set (i := 1) sc_level_entries.nd rfl (.inr rfl) (pe_op op_sub (pe_callB call_len_seq (by rfl) T.z_len (by decide +kernel) (pa_cons (pv 0) pa_nil)) pe_int))
    (pss_one (ps_ret (pe_lc (own := [("at", 2), ("entry", 3)]) (g := (gTup K 2 (gCons (gName 2) (gCons (gName 3) gNil)))) (tt := tYes) (by rfl) sc_level_entries.nd (pi_enumT (by rfl) T.z_enumerate (pa_cons (pv 0) pa_nil)) (blkOk_by (N := N_level_entries) (sc := defScope s_level_entries) (by decide +kernel)) (fun _ _ _ _ _ => (pg_tup (by rfl) (pgs_cons (pg_name (i := 2) sc_level_entries.nd rfl (.inl rfl)) (pgs_cons (pg_name (i := 3) sc_level_entries.nd rfl (.inl rfl)) pgs_nil)))) (fun _ _ _ _ _ => pts_nil) (fun _ _ _ _ _ => (pe_op op_mulW (pe_op op_mulW (pe_call G_factorial_of hr (by rfl) T.g_factorial_of T.F_factorial_of.kp T.b_factorial_of .nil pass0 (pa_cons (pv 2) pa_nil)) (pe_call G_factorial_of hr (by rfl) T.g_factorial_of T.F_factorial_of.kp T.b_factorial_of .nil pass0 (pa_cons (pe_op op_sub (pv 1) (pv 2)) pa_nil))) (pv 3)))))))), ?_⟩
    refine ⟨_, rfl, a, _, rfl, .inr (SqT.of ha), _, _, rfl, rfl, ?_⟩
    rw [List.length_map]
    refine ⟨_, rfl, a, _, rfl, SqT.of ha, fun D hD => lc_enumT (xs := l.map V.int) (fun k H' => Same H H' ∧ H' D = some (ls (tb k fun i => (fc i : Int) * (fc (l.length - 1 - i) : Int) * co l i))) ⟨same_upd0 hD, upd_same⟩ (fun k H' _ hP => SqT.of (hP.1 _ _ ha)) (fun k x B H' hx hP hB => ?_) (fun H3 hP => ?_)⟩
    · obtain ⟨sH, hL⟩ := hP
      obtain ⟨hk, rfl⟩ := int_get hx
      refine gen_upd H' B _ hB fun H4 s4 f4 => ⟨B, _, rfl, SqT.of f4, rfl, _, _, rfl, _, _, rfl, rfl, rfl, ?_⟩
      have f1 := fc_le k (by omega)
      have f2 := fc_le (l.length - 1 - k) (by omega)
      have f3 := fc2_le (l.length - 1) (by omega) k (by omega)
      refine ⟨_, rfl, k, rfl, by omega, _, rfl, _, rfl, _, _, rfl, rfl, l.length - 1 - k, ints1 (by omega), by omega, _, _, rfl, rfl, sm_mul (sm_small ?_) (sm_small ?_), _, rfl, _, _, rfl, rfl, sm_mul (sm_small ?_) (hl.smc k), _, s4 _ _ hL, ?_, fun b o e => ?_, ?_⟩
      · rw [Int.natAbs_natCast]
        exact Nat.le_trans f1 (by decide)
      · rw [Int.natAbs_natCast]
        exact Nat.le_trans f2 (by decide)
      · rw [Int.natAbs_mul, Int.natAbs_natCast, Int.natAbs_natCast]
        exact Nat.le_trans f3 (by decide)
      · rw [List.length_map, tb_len]
        exact small1000 (by omega)
      · rw [upd_ne (ne_of_none e hD)]
        exact s4 _ _ (sH _ _ e)
      · rw [upd_same]
        unfold tb ls
        rw [List.range_succ, List.map_append, List.map_append]
        rfl
    · obtain ⟨sH, hL⟩ := hP
      rw [List.length_map] at hL
      exact q D H3 sH hL
def spLevR : Sp := fun vs H Q _ => ∃ (a : Addr) (l : List Int) (d : Nat), vs = [.ref a, .int d] ∧ H a = some (tp l) ∧ Lw l ∧ d ≤ l.length ∧ ∀ p bs H', Same H H' → H' p = some (.lst (bs.map V.ref)) → RT H' bs (lrows l d) → Q (.ref p) H'
theorem ok_level_rows (T : Facts K mg) : FnOk P w K mg base CX0 3 T.f_level_rows T.fd_level_rows ["entries", "degree"] spLevR := by
  have G_level_entries := ok_level_entries (P := P) (w := w) (base := base) T
  refine T.F_level_rows.ok sc_level_rows (fun vs H Q E h => ?_) (fun cdv A outer s H vs Q E hr h => ?_)
  · obtain ⟨a, l, d, rfl, _⟩ := h
    rfl
  · obtain ⟨a, l, d, rfl, ha, hl, hd, q⟩ := h
    have l1 := hl.l1
    have l8 := hl.l8
    refine ⟨_, (PSs.nox (pss_cons (ps_set (i := 2) sc_level_rows.nd rfl (.inr rfl) (pe_call G_level_entries hr (by rfl) T.g_level_entries T.F_level_entries.kp T.b_level_entries .nil pass0 (pa_cons (pv 0) pa_nil)))
    (pss_one (ps_ret (pe_lc (own := [("at", 3)]) (g := (gName 3)) (tt := tYes) (by rfl) sc_level_rows.nd (pi_range1 (by rfl) T.z_range (pa_cons (pe_op op_sub (pe_callB call_len_seq (by rfl) T.z_len (by decide +kernel) (pa_cons (pv 0) pa_nil)) (pv 1)) pa_nil)) (blkOk_by (N := N_level_rows) (sc := defScope s_level_rows) (by decide +kernel)) (fun _ _ _ _ _ => (pg_name (i := 3) sc_level_rows.nd rfl (.inl rfl))) (fun _ _ _ _ _ => pts_nil) (fun _ _ _ _ _ => (pe_tupleOf (by rfl) T.z_tuple (pe_slice (sl_list : SlR _ (rSlL K)) (pv 2) (po_some (pv 3)) (po_some (pe_op op_add (pe_op op_add (pv 3) (pv 1)) pe_int))) : PE _ _ (tThen _ (kTup K))))))))), ?_⟩
    refine ⟨_, rfl, a, l, rfl, ha, hl, fun t H1 s1 t1 => ?_⟩
    refine ⟨_, rfl, a, _, rfl, .inr (SqT.of (s1 _ _ ha)), _, rfl, _, _, rfl, rfl, ?_⟩
    rw [List.length_map]
    refine ⟨_, rfl, by omega, by omega, fun D hD => ?_⟩
    refine lc_rangeT (f := lrow l d) hD (by omega) (fun _ => rfl) (fun j H2 Q2 hj s2 kq => ?_) (fun bs H6 s6 d6 r6 => ?_)
    · have t2 := s2 _ _ t1
      refine ⟨_, rfl, _, rfl, (j : Int), rfl, _, rfl, _, rfl, _, _, rfl, rfl, _, _, rfl, rfl, _, rfl, t, _, rfl, SqL.of t2, fun p np => .inl ⟨p, _, rfl, SqL.of upd_same, fun p2 n2 => kq p2 _ (fun b o e => same_upd0 n2 _ _ (same_upd0 np _ _ e)) ?_⟩⟩
      rw [upd_same, cut_lev (by omega)]
    · rw [show ((l.length : Int) - (d : Int)).toNat = l.length - d by omega] at r6
      exact q D bs H6 (s1.trans s6) d6 r6
end
end K65

set_option Elab.async false
set_option linter.all false
set_option maxRecDepth 100000
set_option maxHeartbeats 4000000
set_option exponentiation.threshold 10000
namespace K65
open PySem PySem.Spec PyProof.Rows L2 StX RZ MyR SlX OwnR OwnF EnumT GxR GenNx FDivQ LA
theorem gl_cont : ∀ (l : List Int), cont l = gl l := fun l => by
  have key : ∀ n, n ≤ l.length → cont (l.take n) = gl (l.take n) := fun n => by
    induction n with
    | zero => exact fun _ => rfl
    | succ n ih =>
      intro h
      rw [take_snoc (by omega), cont_snoc, ih (by omega)]
      unfold gl
      rw [List.foldl_append]
      rfl
  have := key l.length (Nat.le_refl _)
  rw [List.take_length] at this
  exact this
section
variable {P : Program} {w : World} {K : PySem.W.Frag} {mg : Str → Option Value} {base : Heap} {Ps : List Addr}
def spLLess : Sp := fun vs H Q _ => ∃ (a b : Addr) (row head : List Int) (p : Nat), vs = [.ref a, .ref b, .int p] ∧ H a = some (ls row) ∧ H b = some (ls head) ∧ row.length = head.length ∧ row.length ≤ 100 ∧ p < row.length ∧ LessOk row head p ∧ ∀ q H', Same H H' → H' q = some (ls (lless row head p)) → Q (.ref q) H'
theorem ok_law_sharedG (T : Facts K mg) : FnOk P w K mg base CX0 2 T.f_law_shared T.fd_law_shared ["_law_numbers"] (spSharedS K) := (ok_law_sharedC T).imp fun vs H Q E h => by
  obtain ⟨t, ns, rfl, ht, q⟩ := h
  rw [← gl_cont] at q
  exact ⟨t, ns, rfl, ht, q⟩
theorem ok_law_less (T : Facts K mg) : FnOk P w K mg base CX0 3 T.f_law_less T.fd_law_less ["_law_row", "_law_head", "_law_place"] spLLess := by
  have G_law_shared : FnOk P w K mg base CX0 2 T.f_law_shared T.fd_law_shared ["_law_numbers"] (spSharedS K) := ok_law_sharedG T
  have G_law_gcd : FnOk P w K mg base CX0 1 T.f_law_gcd T.fd_law_gcd ["_law_one", "_law_other"] spLGcd := ok_law_gcd T
  refine T.F_law_less.ok sc_law_less (fun vs H Q E h => ?_) (fun cdv A outer s H vs Q E hr h => ?_)
  · obtain ⟨a, b, row, head, p, rfl, _⟩ := h
    rfl
  · obtain ⟨a, b, row, head, p, rfl, ha, hb, hl, hl1, hp, k, q⟩ := h
    refine ⟨_, (PSs.nox (pss_cons (ps_asg (pe_tup (pa_cons (pe_ix ix_list (pv 1) (pv 2) (fun _ _ => rfl)) (pa_cons (pe_ix ix_list (pv 0) (pv 2) (fun _ _ => rfl)) pa_nil))) (pg_tup (by rfl) (pgs_cons (pg_name (i := 3) sc_law_less.nd rfl (.inr rfl)) (pgs_cons (pg_name (i := 4) sc_law_less.nd rfl (.inr rfl)) pgs_nil))))
    (pss_cons (ps_set (i := 5) sc_law_less.nd rfl (.inr rfl) (pe_call G_law_gcd (hr.mono (by decide)) (by rfl) T.g_law_gcd T.F_law_gcd.kp T.b_law_gcd .nil pass0 (pa_cons (pv 3) (pa_cons (pv 4) pa_nil))))
    (pss_cons (ps_setLc (i := 6) (own := [("_law_entry", 7), ("_law_taken", 8)]) (g := (gTup K 2 (gCons (gName 7) (gCons (gName 8) gNil)))) (tt := tYes) rfl sc_law_less.nd rfl rfl (sw_true rfl rfl rfl (by decide +kernel)) (pi_zipA (by rfl) T.z_zip (pa_cons (pv 0) (pa_cons (pv 1) pa_nil))) (blkOk_by (N := N_law_less) (sc := defScope s_law_less) (by decide +kernel)) (fun _ _ _ _ _ => (pg_tup (by rfl) (pgs_cons (pg_name (i := 7) sc_law_less.nd rfl (.inl rfl)) (pgs_cons (pg_name (i := 8) sc_law_less.nd rfl (.inl rfl)) pgs_nil)))) (fun _ _ _ _ _ => pts_nil) (fun _ _ _ _ _ => (pe_op op_sub (pe_op op_mulW (pv 7) (pe_op FDivQ.op_fdivQ (pv 3) (pv 5))) (pe_op op_mulW (pe_op FDivQ.op_fdivQ (pv 4) (pv 5)) (pv 8)))))
    (pss_cons (ps_set (i := 9) sc_law_less.nd rfl (.inr rfl) (pe_call G_law_shared hr (by rfl) T.g_law_shared T.F_law_shared.kp T.b_law_shared .nil pass0 (pa_cons (pv 6) pa_nil)))
    (pss_one (ps_ret (pe_ifExp (pt_cmpR op_gt (pv 9) pe_int (nomark _)) (pe_lc (own := [("_law_entry", 7)]) (g := (gName 7)) (tt := tYes) (by rfl) sc_law_less.nd (pi_list (pv 6)) (blkOk_by (N := N_law_less) (sc := defScope s_law_less) (by decide +kernel)) (fun _ _ _ _ _ => (pg_name (i := 7) sc_law_less.nd rfl (.inl rfl))) (fun _ _ _ _ _ => pts_nil) (fun _ _ _ _ _ => (pe_op FDivQ.op_fdivQ (pv 7) (pv 9)))) (pv 6))))))))), ?_⟩
    refine ⟨_, rfl, _, rfl, b, _, p, .int (co head p), rfl, rfl, SqL.of hb, atI_nat (get_int (by omega)), _, rfl, _, rfl, a, _, p, .int (co row p), rfl, rfl, SqL.of ha, atI_nat (get_int hp), sz2, fun t1 n1 => ?_⟩
    refine ⟨t1, _, rfl, SqT.of upd_same, rfl, _, _, rfl, _, _, rfl, rfl, ?_⟩
    have s2 := same_upd0 (o := .tup [.int (co head p), .int (co row p)]) n1
    generalize upd H t1 (.tup [.int (co head p), .int (co row p)]) = H2 at s2 ⊢
    refine ⟨_, rfl, _, rfl, _, _, rfl, ?_⟩
    have m1 := k.m1
    have m2 := k.m2
    have dd := k.d
    have c1 := k.c1
    have c2 := k.c2
    have el : lless row head p = if 1 < gl (lf row head p) then dv (lf row head p) (gl (lf row head p)) else lf row head p := rfl
    have ef : lf row head p = tb row.length fun k => co row k * (co head p).fdiv (Nat.gcd (co head p).natAbs (co row p).natAbs : Nat) - (co row p).fdiv (Nat.gcd (co head p).natAbs (co row p).natAbs : Nat) * co head k := rfl
    rw [el] at q
    clear k el
    generalize lf row head p = f at ef q dd
    refine ⟨_, rfl, _, rfl, a, b, _, _, rfl, .inl ⟨SqL.of (s2 _ _ ha), SqL.of (s2 _ _ hb), fun D hD => ?_⟩⟩
    refine lc_zipL (xs := row.map V.int) (ys := head.map V.int) (by rw [List.length_map, List.length_map, hl]) (fun j H' => Same H2 H' ∧ H' D = some (.lst (tab j fun k => co row k * (co head p).fdiv (Nat.gcd (co head p).natAbs (co row p).natAbs : Nat) - (co row p).fdiv (Nat.gcd (co head p).natAbs (co row p).natAbs : Nat) * co head k))) ⟨same_upd0 hD, upd_same⟩ (fun j H' _ hP => ⟨SqL.of (hP.1 _ _ (s2 _ _ ha)), SqL.of (hP.1 _ _ (s2 _ _ hb))⟩) (fun j x y A H' hx hy hP hA => ?_) (fun H' hP => ?_)
    · obtain ⟨sH, hD'⟩ := hP
      obtain ⟨hj, rfl⟩ := int_get hx
      obtain ⟨_, rfl⟩ := int_get hy
      have sA := same_upd0 (o := .tup [.int (co row j), .int (co head j)]) hA
      refine ⟨A, _, rfl, SqT.of upd_same, rfl, _, _, rfl, _, _, rfl, rfl, rfl, _, rfl, _, rfl, _, rfl, _, _, rfl, rfl, c1, _, _, rfl, rfl, m1 j hj, _, rfl, _, rfl, _, _, rfl, rfl, c2, _, rfl, _, _, rfl, rfl, m2 j hj, _, _, rfl, rfl, _, sA _ _ hD', ?_, fun b o e => ?_, ?_⟩
      · rw [tab_len]
        exact small1000 (by omega)
      · rw [upd_ne (ne_of_none e hD)]
        exact sA _ _ (sH _ _ e)
      · rw [upd_same, ← tab_snoc]
    · obtain ⟨s3, hL⟩ := hP
      rw [List.length_map, tab_tb, ← ef] at hL
      have hfl : f.length ≤ 100 := by rw [ef, tb_len]; exact hl1
      have s4 : Same H H' := fun b o e => s3 _ _ (s2 _ _ e)
      refine ⟨_, rfl, D, f, rfl, .inr (SqL.of hL), ?_⟩
      refine ⟨_, rfl, _, _, rfl, rfl, _, rfl, ?_⟩
      by_cases d : 1 < gl f
      · rw [decide_eq_true (show (1 : Int) < ((gl f : Nat) : Int) by omega)]
        rw [if_pos d] at q
        refine iteT ⟨_, rfl, D, rfl, ⟨_, SqL.of hL⟩, fun D2 hD2 => ?_⟩
        refine lc_list (xs := f.map V.int) (fun j H3 => H3 = upd H' D2 (.lst (tab j fun k => (co f k).fdiv (gl f)))) rfl (fun j H3 _ hP => ?_) (fun j x H3 hx hP => ?_) (fun H3 hP => ?_)
        · rw [hP]
          exact SqL.of (same_upd0 hD2 _ _ hL)
        · subst hP
          obtain ⟨hj, rfl⟩ := int_get hx
          refine ⟨rfl, _, rfl, _, rfl, _, _, rfl, rfl, dd (by omega) _ (co_memE hj), _, upd_same, ?_, ?_⟩
          · rw [tab_len]
            exact small1000 (by omega)
          · rw [upd_upd, ← tab_snoc]
        · subst hP
          rw [List.length_map]
          refine q D2 _ (fun b o e => same_upd0 hD2 _ _ (s4 _ _ e)) ?_
          rw [upd_same, tab_tb, dv_tb]
      · rw [decide_eq_false (show ¬ (1 : Int) < ((gl f : Nat) : Int) by omega)]
        rw [if_neg d] at q
        exact iteF ⟨_, rfl, q D H' s4 hL⟩
end
theorem gl_all0 : ∀ (l : List Int), (∀ x ∈ l, x = 0) → gl l = 0 := fun l h => by
  unfold gl
  induction l with
  | nil => rfl
  | cons x l ih =>
    rw [List.foldl_cons, h x List.mem_cons_self]
    exact ih fun y hy => h y (List.mem_cons_of_mem _ hy)
theorem foE_filter {l : List Int} (h : gl l ≠ 0) : ∃ r, l.filter (fun x => x != 0) = foE l :: r := by
  cases e : l.filter (fun x => x != 0) with
  | nil =>
    exfalso
    refine h (gl_all0 l fun x hx => ?_)
    have := List.filter_eq_nil_iff.mp e x hx
    simpa using this
  | cons y r =>
    refine ⟨r, ?_⟩
    have q : l.find? (· != 0) = some y := by
      rw [← List.head?_filter, e]
      rfl
    unfold foE
    rw [q]
    rfl
section
variable {P : Program} {w : World} {K : PySem.W.Frag} {mg : Str → Option Value} {base : Heap} {Ps : List Addr}
def spPlain : Sp := fun vs H Q _ => ∃ (t : Addr) (l : List Int), vs = [.ref t] ∧ H t = some (tp l) ∧ l.length ≤ 100 ∧ DivOk l ∧ ∀ p H', Same H H' → H' p = some (tp (primE l)) → Q (.ref p) H'
theorem ok_law_plainE (T : Facts K mg) : FnOk P w K mg base CX0 3 T.f_law_plain T.fd_law_plain ["_law_form_here"] spPlain := by
  have G_law_shared : FnOk P w K mg base CX0 2 T.f_law_shared T.fd_law_shared ["_law_numbers"] (spSharedS K) := ok_law_sharedG T
  refine T.F_law_plain.ok sc_law_plain (fun vs H Q E h => ?_) (fun cdv A outer s H vs Q E hr h => ?_)
  · obtain ⟨t, ns, rfl, _⟩ := h
    rfl
  · obtain ⟨t, ns, rfl, ht, hl, hdo, q⟩ := h
    refine ⟨_, (PSs.nox (pss_cons (ps_set (i := 1) sc_law_plain.nd rfl (.inr rfl) (pe_call G_law_shared hr (by rfl) T.g_law_shared T.F_law_shared.kp T.b_law_shared .nil pass0 (pa_cons (pv 0) pa_nil)))
    (pss_cons (ps_if (pt_cmpR op_eq (pv 1) pe_int (nomark _))
      (pss_one (ps_ret (pv 0)))
      pss_nil)
    (pss_cons (ps_set (i := 2) sc_law_plain.nd rfl (.inr rfl) (pe_ix ix_list (pe_lc (own := [("_law_entry", 3)]) (g := (gName 3)) (by rfl) sc_law_plain.nd (pi_tup (pv 0)) (blkOk_by (N := N_law_plain) (sc := defScope s_law_plain) (by decide +kernel)) (fun _ _ _ _ _ => (pg_name (i := 3) sc_law_plain.nd rfl (.inl rfl))) (fun _ _ _ _ _ => (pts_one (pt_cmpR op_ne (pv 3) pe_int (nomark _)))) (fun _ _ _ _ _ => (pv 3))) pe_int (fun _ _ => rfl)))
    (pss_one (ps_ret (pe_tupleOf (by rfl) T.z_tuple (pe_lc (own := [("_law_entry", 3)]) (g := (gName 3)) (tt := tYes) (by rfl) sc_law_plain.nd (pi_tup (pv 0)) (blkOk_by (N := N_law_plain) (sc := defScope s_law_plain) (by decide +kernel)) (fun _ _ _ _ _ => (pg_name (i := 3) sc_law_plain.nd rfl (.inl rfl))) (fun _ _ _ _ _ => pts_nil) (fun _ _ _ _ _ => (pe_op FDivQ.op_fdivQ (pv 3) (pe_ifExp (pt_cmpR op_gt (pv 2) pe_int (nomark _)) (pv 1) (pe_op op_sub pe_int (pv 1))))))))))))), ?_⟩
    refine ⟨_, rfl, t, ns, rfl, .inl (SqT.of ht), _, rfl, rfl, _, rfl, ?_⟩
    by_cases c : gl ns = 0
    · rw [decide_eq_true (show V.int ((gl ns : Nat) : Int) = V.int 0 by rw [c]; rfl)]
      refine iteT ⟨_, rfl, q t H (fun _ _ e => e) ?_⟩
      unfold primE
      rw [if_pos c]
      exact ht
    · rw [decide_eq_false fun z => c (Int.natCast_eq_zero.mp (V.int.inj z))]
      obtain ⟨r0, e1⟩ := foE_filter c
      refine iteF ⟨_, rfl, t, rfl, ⟨_, SqT.of ht⟩, fun D hD => lc_tup (xs := ns.map V.int) (fun j H' => Same H H' ∧ H' D = some (.lst (((ns.take j).filter (fun x => x != 0)).map V.int))) ⟨same_upd0 hD, upd_same⟩ (fun j H' _ hP => SqT.of (hP.1 _ _ ht)) (fun j x H' hx hP => ?_) (fun H1 hP => ?_)⟩
      · obtain ⟨sH, hL⟩ := hP
        obtain ⟨hj, rfl⟩ := int_get hx
        refine ⟨rfl, _, rfl, rfl, _, rfl, ?_⟩
        rw [take_snoc hj, List.filter_append]
        by_cases d : co ns j = 0
        · rw [decide_eq_true (show V.int (co ns j) = V.int 0 by rw [d])]
          refine iteF ⟨sH, ?_⟩
          rw [hL, List.filter_cons_of_neg (by rw [d]; decide), List.filter_nil, List.append_nil]
        · rw [decide_eq_false fun z => d (V.int.inj z)]
          refine iteT ⟨_, rfl, _, hL, ?_, fun b o e => ?_, ?_⟩
          · have h1 := List.length_filter_le (fun x => x != 0) (ns.take j)
            rw [List.length_take] at h1
            rw [List.length_map]
            exact small1000 (by omega)
          · rw [upd_ne (ne_of_none e hD)]
            exact sH _ _ e
          · rw [upd_same, List.filter_cons_of_pos (by simpa using d), List.filter_nil, List.map_append]
            rfl
      · obtain ⟨s1, hL⟩ := hP
        rw [List.length_map, List.take_length, e1] at hL
        refine ⟨D, _, _, .int (foE ns), rfl, rfl, SqL.of hL, atI_nat (j := 0) rfl, ?_⟩
        have ht1 := s1 _ _ ht
        have en : primE ns = dv ns (if 0 < foE ns then ((gl ns : Nat) : Int) else 0 - ((gl ns : Nat) : Int)) := by
          unfold primE
          rw [if_neg c, Int.zero_sub]
        refine ⟨_, rfl, t, rfl, ⟨_, SqT.of ht1⟩, fun D2 hD2 => lc_tup (xs := ns.map V.int) (fun j H' => H' = upd H1 D2 (.lst (tab j fun k => (co ns k).fdiv (if 0 < foE ns then ((gl ns : Nat) : Int) else 0 - ((gl ns : Nat) : Int))))) rfl (fun j H' _ hP => ?_) (fun j x H' hx hP => ?_) (fun H' hP => ?_)⟩
        · rw [hP]
          exact SqT.of (same_upd0 hD2 _ _ ht1)
        · subst hP
          obtain ⟨hj, rfl⟩ := int_get hx
          refine ⟨rfl, _, rfl, _, rfl, foE ns, 0, rfl, rfl, _, rfl, ?_⟩
          by_cases d : 0 < foE ns
          · rw [decide_eq_true d]
            refine iteT ⟨_, rfl, _, _, rfl, rfl, hdo c _ (co_memE hj), _, upd_same, ?_, ?_⟩
            · rw [tab_len]
              exact small1000 (by omega)
            · rw [upd_upd, ← tab_snoc, if_pos d]
          · rw [decide_eq_false d]
            refine iteF ⟨_, rfl, _, _, rfl, rfl, _, _, rfl, rfl, by rw [Int.zero_sub]; exact cdivQ_neg (hdo c _ (co_memE hj)), _, upd_same, ?_, ?_⟩
            · rw [tab_len]
              exact small1000 (by omega)
            · rw [upd_upd, ← tab_snoc, if_neg d]
        · subst hP
          rw [List.length_map, tab_tb, dv_tb]
          refine .inl ⟨D2, _, rfl, SqL.of upd_same, fun p hp2 => ?_⟩
          refine q p _ (fun b o e => same_upd0 hp2 _ _ (same_upd0 hD2 _ _ (s1 _ _ e))) ?_
          rw [upd_same, en]
end
theorem eS_lenL {rows : List (List Int)} {n : Nat} (h : ∀ r ∈ rows, r.length = n) : ∀ p, (∀ r ∈ (eS lless rows p).1, r.length = n) ∧ ∀ r ∈ (eS lless rows p).2, r.length = n
  | 0 => ⟨h, fun r hr => absurd hr List.not_mem_nil⟩
  | p + 1 => by
    obtain ⟨h1, h2⟩ := eS_lenL h p
    show (∀ r ∈ (stp lless p (eS lless rows p)).1, r.length = n) ∧ ∀ r ∈ (stp lless p (eS lless rows p)).2, r.length = n
    cases e : hix (eS lless rows p).1 p with
    | none =>
      rw [stp_none e]
      exact ⟨h1, h2⟩
    | some k =>
      rw [stp_some e]
      refine ⟨fun r hr => ?_, fun r hr => ?_⟩
      · obtain ⟨x, hx, rfl⟩ := List.mem_map.mp hr
        rw [lless_len]
        exact h1 x (List.mem_of_mem_eraseIdx hx)
      · rcases List.mem_append.mp hr with hr | hr
        · obtain ⟨x, hx, rfl⟩ := List.mem_map.mp hr
          rw [lless_len]
          exact h2 x hx
        · rw [List.mem_singleton.mp hr]
          obtain ⟨hk, _, _⟩ := List.findIdx?_eq_some_iff_getElem.mp e
          rw [List.getD_eq_getElem?_getD, List.getElem?_eq_getElem hk]
          exact h1 _ (List.getElem_mem hk)
section
variable {P : Program} {w : World} {K : PySem.W.Frag} {mg : Str → Option Value} {base : Heap} {Ps : List Addr}
def spLEch : Sp := fun vs H Q _ => ∃ (t : Addr) (as : List Addr) (rows : List (List Int)) (n : Nat), vs = [.ref t, .int n] ∧ (H t = some (.tup (as.map V.ref)) ∨ H t = some (.lst (as.map V.ref))) ∧ RA H as rows ∧ rows.length ≤ 100 ∧ n ≤ 100 ∧ (∀ r ∈ rows, r.length = n) ∧
  EOk lless rows n ∧ ∀ p bs H', Same H H' → H' p = some (.lst (bs.map V.ref)) → RT H' bs (ech lless rows n) → Q (.ref p) H'
theorem ok_law_cleared (T : Facts K mg) : FnOk P w K mg base CX0 4 T.f_law_cleared T.fd_law_cleared ["_law_rows", "_law_width"] spLEch := by
  have G_law_less : FnOk P w K mg base CX0 3 T.f_law_less T.fd_law_less ["_law_row", "_law_head", "_law_place"] spLLess := ok_law_less T
  have G_law_plain : FnOk P w K mg base CX0 3 T.f_law_plain T.fd_law_plain ["_law_form_here"] spPlain := ok_law_plainE T
  refine T.F_law_cleared.ok sc_law_cleared (fun vs H Q E h => ?_) (fun cdv A outer s H vs Q E hr h => ?_)
  · obtain ⟨t, as, rows, n, rfl, _⟩ := h
    rfl
  · obtain ⟨t, as, rows, n, rfl, hS, hA, hl, hn, hw, ok, q⟩ := h
    refine ⟨_, (PSs.nox (pss_cons (ps_par (i := 2) (j := 3) (by rfl) sc_law_cleared.nd rfl rfl (by decide) rfl rfl (pa_cons (pe_lc (own := [("_law_row", 4)]) (g := (gName 4)) (tt := tYes) (by rfl) sc_law_cleared.nd (SeqE.PI_or (pi_tup (pv 0)) (pi_list (pv 0))) (blkOk_by (N := N_law_cleared) (sc := defScope s_law_cleared) (by decide +kernel)) (fun _ _ _ _ _ => (pg_name (i := 4) sc_law_cleared.nd rfl (.inl rfl))) (fun _ _ _ _ _ => pts_nil) (fun _ _ _ _ _ => (pe_callTy (ListOf.call_list_ofK (by rfl) : CallR _ (.type "list") (ListOf.rListOf K)) (by rfl) T.z_list (by decide +kernel) (pa_cons (pv 4) pa_nil)))) (pa_cons (pe_lst pa_nil) pa_nil)) (by rfl))
    (pss_cons (ps_for PassesOwn.never (by rfl) (pi_range1 (by rfl) T.z_range (pa_cons (pv 1) pa_nil)) (pg_name (i := 5) sc_law_cleared.nd rfl (.inr rfl))
      (pss_cons (ps_setLc (i := 6) (own := [("_law_row", 4), ("_law_at", 7)]) (g := (gTup K 2 (gCons (gName 7) (gCons (gName 4) gNil)))) rfl sc_law_cleared.nd rfl rfl (sw_true rfl rfl rfl (by decide +kernel)) (pi_enum (by rfl) T.z_enumerate (pa_cons (pv 2) pa_nil)) (blkOk_by (N := N_law_cleared) (sc := defScope s_law_cleared) (by decide +kernel)) (fun _ _ _ _ _ => (pg_tup (by rfl) (pgs_cons (pg_name (i := 7) sc_law_cleared.nd rfl (.inl rfl)) (pgs_cons (pg_name (i := 4) sc_law_cleared.nd rfl (.inl rfl)) pgs_nil)))) (fun _ _ _ _ _ => (pts_one (pt_cmpR op_ne (pe_ix (ix_list : IxR _ (rIxL K)) (pv 4) (pv 5) (fun _ _ => rfl)) pe_int (nomark _)))) (fun _ _ _ _ _ => (pv 7)))
      (pss_one (ps_if (pt_cmpR (op_neD (hu64 hr)) (pv 6) (pe_lst pa_nil) (nomark _))
        (pss_cons (ps_set (i := 8) sc_law_cleared.nd rfl (.inr rfl) (pe_bm PySem.F.plainAttrs_list PySem.F.slot_list_pop PySem.F.type_list_pop mt_popAt (pv 2) (pa_cons (pe_ix ix_list (pv 6) pe_int (fun _ _ => rfl)) pa_nil)))
        (pss_cons (ps_set (i := 3) sc_law_cleared.nd rfl (.inl rfl) (pe_op op_cat (pe_lc (own := [("_law_row", 4)]) (g := (gName 4)) (tt := tYes) (by rfl) sc_law_cleared.nd (pi_list (pv 3)) (blkOk_by (N := N_law_cleared) (sc := defScope s_law_cleared) (by decide +kernel)) (fun _ _ _ _ _ => (pg_name (i := 4) sc_law_cleared.nd rfl (.inl rfl))) (fun _ _ _ _ _ => pts_nil) (fun _ _ _ _ _ => (pe_call G_law_less hr (by rfl) T.g_law_less T.F_law_less.kp T.b_law_less .nil pass0 (pa_cons (pv 4) (pa_cons (pv 8) (pa_cons (pv 5) pa_nil)))))) (pe_lst (pa_cons (pv 8) pa_nil))))
        (pss_one (ps_setLc (i := 2) (own := [("_law_row", 4)]) (g := (gName 4)) (tt := tYes) rfl sc_law_cleared.nd rfl rfl (sw_true rfl rfl rfl (by decide +kernel)) (pi_list (pv 2)) (blkOk_by (N := N_law_cleared) (sc := defScope s_law_cleared) (by decide +kernel)) (fun _ _ _ _ _ => (pg_name (i := 4) sc_law_cleared.nd rfl (.inl rfl))) (fun _ _ _ _ _ => pts_nil) (fun _ _ _ _ _ => (pe_call G_law_less hr (by rfl) T.g_law_less T.F_law_less.kp T.b_law_less .nil pass0 (pa_cons (pv 4) (pa_cons (pv 8) (pa_cons (pv 5) pa_nil)))))))))
        pss_nil))))
    (pss_one (ps_ret (pe_lc (own := [("_law_row", 4)]) (g := (gName 4)) (tt := tYes) (by rfl) sc_law_cleared.nd (pi_list (pv 3)) (blkOk_by (N := N_law_cleared) (sc := defScope s_law_cleared) (by decide +kernel)) (fun _ _ _ _ _ => (pg_name (i := 4) sc_law_cleared.nd rfl (.inl rfl))) (fun _ _ _ _ _ => pts_nil) (fun _ _ _ _ _ => (pe_call G_law_plain hr (by rfl) T.g_law_plain T.F_law_plain.kp T.b_law_plain .nil pass0 (pa_cons (pe_tupleOf (by rfl) T.z_tuple (pv 4) : PE _ _ (tThen _ (kTup K))) pa_nil))))))))), ?_⟩
    have step : ∀ (i : Nat) (x : V) (D : Addr) (H' : Hp), H D = none → (as.map V.ref)[i]? = some x → (∃ bs, Same H H' ∧ H' D = some (.lst (bs.map V.ref)) ∧ bs.length = i ∧ RR H' bs (rows.take i)) →
        ∃ a r, x = .ref a ∧ (H' a = some (ls r) ∨ H' a = some (tp r)) ∧ ∀ l, H' l = none → ∃ acc, (upd H' l (ls r)) D = some (.lst acc) ∧ acc.length < sizeLine ∧ ∃ bs, Same H (upd (upd H' l (ls r)) D (.lst (acc ++ [.ref l]))) ∧ (upd (upd H' l (ls r)) D (.lst (acc ++ [.ref l]))) D = some (.lst (bs.map V.ref)) ∧ bs.length = i + 1 ∧ RR (upd (upd H' l (ls r)) D (.lst (acc ++ [.ref l]))) bs (rows.take (i + 1)) := fun i x D H' hD hx hP => by
      obtain ⟨bs, s1, h1, h2, h3⟩ := hP
      rw [List.getElem?_map] at hx
      obtain ⟨a, ha, rfl⟩ := Option.map_eq_some_iff.mp hx
      have hi : i < rows.length := by
        rw [← hA.len]
        exact (List.getElem?_eq_some_iff.mp ha).1
      obtain ⟨a', r, e1, e2, k⟩ := RX.get hA hi
      rw [ha] at e1
      cases e1
      refine ⟨a, r, rfl, k.symm.imp (s1 _ _) (s1 _ _), fun l hl => ⟨bs.map V.ref, ?_, ?_, bs ++ [l], ?_, ?_, ?_, ?_⟩⟩
      · exact same_upd0 hl _ _ h1
      · rw [List.length_map, h2]
        exact small1000 (by omega)
      · intro b o e
        rw [upd_ne (ne_of_none e hD)]
        exact same_upd0 hl _ _ (s1 _ _ e)
      · rw [upd_same, List.map_append]
        rfl
      · rw [List.length_append, h2]
        rfl
      · have lD : l ≠ D := fun e => by
          rw [e, h1] at hl
          cases hl
        have hr2 : RR (upd H' l (ls r)) bs (rows.take i) := h3.same (same_upd0 hl)
        have et : rows.take (i + 1) = rows.take i ++ [r] := by
          rw [List.take_add_one, e2]
          rfl
        rw [et]
        refine RX.snoc (RR.upd hr2 (same_upd0 hl _ _ h1) fun z => z) ?_
        show upd (upd H' l (ls r)) D _ l = _
        rw [upd_ne lD]
        exact upd_same
    rcases hS with hS | hS
    case' inl =>
      refine .inl ⟨_, rfl, t, rfl, ⟨_, SqT.of hS⟩, fun D hD => ?_⟩
      refine lc_tup (xs := as.map V.ref) (fun j H' => ∃ bs, Same H H' ∧ H' D = some (.lst (bs.map V.ref)) ∧ bs.length = j ∧ RR H' bs (rows.take j)) ⟨[], same_upd0 hD, upd_same, rfl, True.intro⟩ (fun j H' _ hP => SqT.of (hP.choose_spec.1 _ _ hS)) (fun j x H' hx hP => by
        obtain ⟨a, r, rfl, k, f⟩ := step j x D H' hD hx hP
        exact ⟨rfl, _, rfl, a, r.map V.int, rfl, k.imp SqL.of SqT.of, fun l hl => f l hl⟩) (fun H1 hP => ?_)
    case' inr =>
      refine .inr ⟨_, rfl, t, rfl, ⟨_, SqL.of hS⟩, fun D hD => ?_⟩
      refine lc_list (xs := as.map V.ref) (fun j H' => ∃ bs, Same H H' ∧ H' D = some (.lst (bs.map V.ref)) ∧ bs.length = j ∧ RR H' bs (rows.take j)) ⟨[], same_upd0 hD, upd_same, rfl, True.intro⟩ (fun j H' _ hP => SqL.of (hP.choose_spec.1 _ _ hS)) (fun j x H' hx hP => by
        obtain ⟨a, r, rfl, k, f⟩ := step j x D H' hD hx hP
        exact ⟨rfl, _, rfl, a, r.map V.int, rfl, k.imp SqL.of SqT.of, fun l hl => f l hl⟩) (fun H1 hP => ?_)
    all_goals
      clear step
      obtain ⟨bs, s1, h1, h2, h3⟩ := hP
      rw [show rows.take ((as.map V.ref).length) = rows by rw [List.length_map, hA.len, List.take_length]] at h3
      have hbl := h3.len
      dsimp only [tCons, tLst, tNil]
      refine ⟨by decide, fun F hF => ⟨_, _, rfl, ?_⟩⟩
      have s2 : Same H (upd H1 F (.lst [])) := fun b o e => same_upd0 hF _ _ (s1 _ _ e)
      refine ⟨_, rfl, _, rfl, by omega, by omega, for_range (n := n) (fun i σ H' => ∃ L F ls' fs y4 y5 y6 y7 y8, σ = [some (.ref t), some (.int n), some (.ref L), some (.ref F), y4, y5, y6, y7, y8] ∧ Same H H' ∧ H L = none ∧ L ≠ F ∧ H' L = some (.lst (ls'.map V.ref)) ∧ H' F = some (.lst (fs.map V.ref)) ∧ RR H' ls' (eS lless rows i).1 ∧ RR H' fs (eS lless rows i).2) ⟨D, F, bs, [], none, none, none, none, none, rfl, s2, hD, (fun e => by rw [e, hF] at h1; cases h1), same_upd0 hF _ _ h1, upd_same, h3.same (same_upd0 hF), True.intro⟩ (fun i σ H' hi hP => ?_) (fun σ H' hP => ?_)⟩
      · obtain ⟨L, F, ls', fs, y4, y5, y6, y7, y8, rfl, sH, nL, nLF, eL, eF, rL, rF⟩ := hP
        rw [Int.zero_add]
        refine ⟨_, rfl, L, _, rfl, SqL.of eL, fun D2 hD2 => ?_⟩
        refine lc_enumL (xs := ls'.map V.ref) (fun j H3 => Same H' H3 ∧ H3 D2 = some (.lst ((((List.range j).filter fun k => co ((eS lless rows i).1.getD k []) i != 0).map fun (k : Nat) => (k : Int)).map V.int))) ⟨same_upd0 hD2, upd_same⟩ (fun j H3 _ hP => SqL.of (hP.1 _ _ eL)) (fun j x A H3 hx hP hA => ?_) (fun H3 hP => ?_)
        · obtain ⟨s3, hL⟩ := hP
          rw [List.getElem?_map] at hx
          obtain ⟨a, ha, rfl⟩ := Option.map_eq_some_iff.mp hx
          obtain ⟨a', r, e1, e2, k⟩ := RX.get rL (by rw [← rL.len]; exact (List.getElem?_eq_some_iff.mp ha).1)
          rw [ha] at e1
          cases e1
          have eg : (eS lless rows i).1.getD j [] = r := by rw [List.getD_eq_getElem?_getD, e2]; rfl
          have sA := same_upd0 (o := .tup [.int (j : Nat), .ref a]) hA
          have hri : i < r.length := by rw [(eS_lenL hw i).1 r (List.mem_of_getElem? e2)]; exact hi
          refine ⟨A, _, rfl, SqT.of upd_same, rfl, _, _, rfl, _, _, rfl, rfl, rfl, _, rfl, _, rfl, a, _, _, .int (co r i), rfl, rfl, SqL.of (sA _ _ (s3 _ _ k)), atI_nat (get_int hri), rfl, _, rfl, ?_⟩
          rw [List.range_succ, List.filter_append]
          by_cases d : co r i = 0
          · rw [decide_eq_true (show V.int (co r i) = V.int 0 by rw [d])]
            refine iteF ⟨fun b o e => sA _ _ (s3 _ _ e), ?_⟩
            rw [sA _ _ hL, List.filter_cons_of_neg (by rw [eg, d]; decide), List.filter_nil, List.append_nil]
          · rw [decide_eq_false fun z => d (V.int.inj z)]
            refine iteT ⟨_, rfl, _, sA _ _ hL, ?_, fun b o e => ?_, ?_⟩
            · rw [List.length_map, List.length_map]
              have hj : j < (eS lless rows i).1.length := (List.getElem?_eq_some_iff.mp e2).1
              have h1 := List.length_filter_le (fun k => co ((eS lless rows i).1.getD k []) i != 0) (List.range j)
              rw [List.length_range] at h1
              have := eS_cnt lless rows i
              exact small1000 (by omega)
            · rw [upd_ne (ne_of_none e hD2)]
              exact sA _ _ (s3 _ _ e)
            · rw [upd_same, List.filter_cons_of_pos (by rw [eg]; simpa using d), List.filter_nil, List.map_append, List.map_append]
              rfl
        · obtain ⟨s3, hL⟩ := hP
          rw [List.length_map, rL.len] at hL
          have hL : H3 D2 = some (.lst ((hds (eS lless rows i).1 i).map V.int)) := hL
          have s4 : Same H H3 := fun b o e => s3 _ _ (sH _ _ e)
          refine ⟨_, rfl, by decide, fun N hN => ne_lintsL (xs := hds (eS lless rows i).1 i) (ys := []) (SqL.of (same_upd0 hN _ _ hL)) (SqL.of upd_same) ⟨_, rfl, ?_⟩⟩
          have s5 : Same H (upd H3 N (.lst [])) := fun b o e => same_upd0 hN _ _ (s4 _ _ e)
          have s6 : Same H' (upd H3 N (.lst [])) := fun b o e => same_upd0 hN _ _ (s3 _ _ e)
          cases eh : hix (eS lless rows i).1 i with
          | none =>
            have e0 : hds (eS lless rows i).1 i = [] := by
              have q := hds_hix (eS lless rows i).1 i
              rw [eh] at q
              cases e1 : hds (eS lless rows i).1 i with
              | nil => rfl
              | cons y ys =>
                rw [e1] at q
                cases q
            rw [e0]
            refine iteF ⟨L, F, ls', fs, y4, some (.int i), some (.ref D2), y7, y8, rfl, s5, nL, nLF, s6 _ _ eL, s6 _ _ eF, ?_, ?_⟩
            · show RR _ ls' (stp lless i (eS lless rows i)).1
              rw [stp_none eh]
              exact rL.same s6
            · show RR _ fs (stp lless i (eS lless rows i)).2
              rw [stp_none eh]
              exact rF.same s6
          | some h =>
            have q := hds_hix (eS lless rows i).1 i
            rw [eh] at q
            have en : hds (eS lless rows i).1 i ≠ [] := fun z => by
              rw [z] at q
              cases q
            rw [decide_eq_false en]
            have hL2 := same_upd0 (o := .lst []) hN _ _ hL
            generalize upd H3 N (.lst []) = H4 at s5 s6 hL2 ⊢
            refine iteT ?_
            obtain ⟨hh, _, _⟩ := List.findIdx?_eq_some_iff_getElem.mp eh
            obtain ⟨ad, r, g1, g2, g3⟩ := RX.get rL hh
            have eg : (eS lless rows i).1.getD h [] = r := by rw [List.getD_eq_getElem?_getD, g2]; rfl
            have hll : h < (ls'.map V.ref).length := by
              rw [List.length_map]
              exact (List.getElem?_eq_some_iff.mp g1).1
            have hsm : (ls'.map V.ref).length ≤ 100 := by have := eS_cnt lless rows i; rw [List.length_map, rL.len]; omega
            have hsi : seqIndex? (h : Int) (ls'.map V.ref).length = some h := by
              unfold seqIndex?
              have n1 : ¬ ((h : Int) < 0) := by omega
              simp only [if_neg n1]
              rw [if_pos (by simp; simpa using hll)]
              rfl
            have q0 : ((hds (eS lless rows i).1 i).map V.int)[0]? = some (V.int (h : Nat)) := by
              rw [List.getElem?_map, q]
              rfl
            refine ⟨_, rfl, .inl ⟨rfl, _, SqL.of (s6 _ _ eL)⟩, _, rfl, D2, _, 0, .int (h : Nat), rfl, rfl, SqL.of hL2, atI_nat (j := 0) q0, L, _, (h : Nat), h, .ref ad, rfl, rfl, s6 _ _ eL, by omega, by omega, hsi, by rw [List.getElem?_map, g1]; rfl, ?_⟩
            have s7 : Same H (upd H4 L (.lst ((ls'.map V.ref).eraseIdx h))) := fun b o e => by
              rw [upd_ne (ne_of_none e nL)]
              exact s5 _ _ e
            have eL7 : (upd H4 L (.lst ((ls'.map V.ref).eraseIdx h))) L = some (.lst ((ls'.eraseIdx h).map V.ref)) := by
              rw [upd_same]
              rw [erase_map]
            have eF7 : (upd H4 L (.lst ((ls'.map V.ref).eraseIdx h))) F = some (.lst (fs.map V.ref)) := by
              rw [upd_ne (Ne.symm nLF)]
              exact s6 _ _ eF
            have hls : ls' ≠ [] := fun z => by
              rw [z] at hll
              exact absurd hll (Nat.not_lt_zero _)
            have rL7 : RR (upd H4 L (.lst ((ls'.map V.ref).eraseIdx h))) (ls'.eraseIdx h) ((eS lless rows i).1.eraseIdx h) := RX.erase h (RR.upd (rL.same s6) (s6 _ _ eL) fun _ => hls)
            have rF7 : RR (upd H4 L (.lst ((ls'.map V.ref).eraseIdx h))) fs (eS lless rows i).2 := RR.upd (rF.same s6) (s6 _ _ eL) fun _ => hls
            have g7 : (upd H4 L (.lst ((ls'.map V.ref).eraseIdx h))) ad = some (ls r) := by
              rw [upd_ne (row_ne (s6 _ _ g3) (s6 _ _ eL) hls)]
              exact s6 _ _ g3
            generalize upd H4 L (.lst ((ls'.map V.ref).eraseIdx h)) = H7 at s7 eL7 eF7 rL7 rF7 g7 ⊢
            have hok := ok.l i hi h eh
            rw [eg] at hok
            obtain ⟨n1, n2⟩ := eS_lenL hw i
            have hrl : r.length = n := n1 r (List.mem_of_getElem? g2)
            have hFl : (eS lless rows i).2.length ≤ 100 := by have := eS_cnt lless rows i; omega
            refine ⟨_, rfl, F, rfl, ⟨_, SqL.of eF7⟩, fun N2 hN2 => lc_rows (f := fun x => lless x r i) hN2 eF7 rF7 hFl (fun _ => rfl) (fun ad2 r2 H2 Q2 hr2 s8 e8 kq => ⟨_, rfl, _, rfl, _, rfl, ad2, ad, r2, r, i, rfl, e8, s8 _ _ g7, by rw [n2 r2 hr2, hrl], by rw [n2 r2 hr2]; exact hn, by rw [n2 r2 hr2]; exact hi, hok r2 (.inr hr2), kq⟩) (fun r2 hr2 z => ?_) (fun bs8 H8 s8 e8 r8 => ?_)⟩
            · have := lless_len r2 r i
              rw [z, n2 r2 hr2] at this
              have : 0 = n := this
              omega
            · refine ⟨_, rfl, (show 1 ≤ sizeLine by decide), fun N3 hN3 => ⟨N2, N3, bs8.map V.ref, [.ref ad], rfl, rfl, same_upd0 hN3 _ _ e8, upd_same, ?_, fun F2 hF2 => ?_⟩⟩
              · rw [List.length_map, r8.len, List.length_map]
                exact Nat.le_trans (Nat.add_le_add_right hFl 1) (by decide)
              have s8' : Same H7 (upd H8 N3 (.lst [.ref ad])) := fun b o e => same_upd0 hN3 _ _ (s8 _ _ e)
              have r8' := r8.same (same_upd0 (o := .lst [.ref ad]) hN3)
              generalize upd H8 N3 (.lst [.ref ad]) = H8' at s8' r8' hF2 ⊢
              have s9 : Same H7 (upd H8' F2 (.lst (bs8.map V.ref ++ [.ref ad]))) := fun b o e => same_upd0 hF2 _ _ (s8' _ _ e)
              have eF9 : (upd H8' F2 (.lst (bs8.map V.ref ++ [.ref ad]))) F2 = some (.lst ((bs8 ++ [ad]).map V.ref)) := by
                rw [upd_same, List.map_append]
                rfl
              have r9 : RR (upd H8' F2 (.lst (bs8.map V.ref ++ [.ref ad]))) (bs8 ++ [ad]) ((eS lless rows i).2.map (fun x => lless x r i) ++ [r]) := RX.snoc (r8'.same (same_upd0 hF2)) (s9 _ _ g7)
              generalize upd H8' F2 (.lst (bs8.map V.ref ++ [.ref ad])) = H9 at s9 eF9 r9 ⊢
              have hLl : ((eS lless rows i).1.eraseIdx h).length ≤ 100 := by have := eS_cnt lless rows i; rw [List.length_eraseIdx_of_lt hh]; omega
              refine ⟨_, rfl, L, rfl, ⟨_, SqL.of (s9 _ _ eL7)⟩, fun L2 hL2 => lc_rows (f := fun x => lless x r i) hL2 (s9 _ _ eL7) (rL7.same s9) hLl (fun _ => rfl) (fun ad2 r2 H2 Q2 hr2 s8 e8 kq => ⟨_, rfl, _, rfl, _, rfl, ad2, ad, r2, r, i, rfl, e8, s8 _ _ (s9 _ _ g7), by rw [n1 r2 (List.mem_of_mem_eraseIdx hr2), hrl], by rw [n1 r2 (List.mem_of_mem_eraseIdx hr2)]; exact hn, by rw [n1 r2 (List.mem_of_mem_eraseIdx hr2)]; exact hi, hok r2 (.inl hr2), kq⟩) (fun r2 hr2 z => ?_) (fun bsA HA sA eA rA => ?_)⟩
              · have := lless_len r2 r i
                rw [z, n1 r2 (List.mem_of_mem_eraseIdx hr2)] at this
                have : 0 = n := this
                omega
              · have nL2 : H L2 = none := by
                  cases e : H L2 with
                  | none => rfl
                  | some o =>
                    rw [s9 _ _ (s7 _ _ e)] at hL2
                    cases hL2
                refine ⟨L2, F2, bsA, bs8 ++ [ad], y4, some (.int i), some (.ref D2), y7, some (.ref ad), rfl, fun b o e => sA _ _ (s9 _ _ (s7 _ _ e)), nL2, fun e => ?_, eA, sA _ _ eF9, ?_, ?_⟩
                · rw [e, eF9] at hL2
                  cases hL2
                · show RR HA bsA (stp lless i (eS lless rows i)).1
                  rw [stp_some eh, eg]
                  exact rA
                · show RR HA (bs8 ++ [ad]) (stp lless i (eS lless rows i)).2
                  rw [stp_some eh, eg]
                  exact r9.same sA
      · obtain ⟨L, F, ls', fs, y4, y5, y6, y7, y8, rfl, sH, nL, nLF, eL, eF, rL, rF⟩ := hP
        have hFl : (eS lless rows n).2.length ≤ 100 := by have := eS_cnt lless rows n; omega
        have n2 := (eS_lenL hw n).2
        refine ⟨_, rfl, F, rfl, ⟨_, SqL.of eF⟩, fun D2 hD2 => lc_rowsT (f := primE) hD2 eF rF hFl (fun _ => rfl) (fun ad r H2 Q2 hr2 s8 e8 kq => ⟨_, rfl, .inl ⟨ad, _, rfl, SqL.of e8, fun p hp => ⟨p, r, rfl, upd_same, by rw [n2 r hr2]; exact hn, ok.d r hr2, fun q3 H3 s3 e3 => kq q3 H3 (fun b o e => s3 _ _ (same_upd0 hp _ _ e)) e3⟩⟩⟩) (fun bs8 H8 s8 e8 r8 => q D2 bs8 H8 (fun b o e => s8 _ _ (sH _ _ e)) e8 r8)⟩
end
section
variable {P : Program} {w : World} {K : PySem.W.Frag} {mg : Str → Option Value} {base : Heap} {Ps : List Addr}
def spRank (Ps : List Addr) : Sp := fun vs H Q _ => ∃ (t : Addr) (as : List Addr) (rows : List (List Int)) (n : Nat), vs = [.ref t, .int n] ∧ (H t = some (.tup (as.map V.ref)) ∨ H t = some (.lst (as.map V.ref))) ∧ RA H as rows ∧ rows.length ≤ 100 ∧ n ≤ 100 ∧ (∀ r ∈ rows, r.length = n) ∧
  EOk less rows n ∧ Tg Ps H ∧ ∀ H', Sts Ps H H' → Tg Ps H' → Q (.int ((ech less rows n).length : Nat)) H'
theorem ok_rank_of (T : Facts K mg) (TB_first_of : TabB base mg T.c_first_of T.P_first_of) (hP : T.P_first_of ∈ Ps) : FnOk P w K mg base CX0 4 T.f_rank_of T.fd_rank_of ["rows", "width"] (spRank Ps) := by
  have G_echelon_rows := ok_echelon_rows (P := P) (w := w) (base := base) T TB_first_of hP
  refine T.F_rank_of.ok sc_rank_of (fun vs H Q E h => ?_) (fun cdv A outer s H vs Q E hr h => ?_)
  · obtain ⟨t, as, rows, n, rfl, _⟩ := h
    rfl
  · obtain ⟨t, as, rows, n, rfl, hS, hA, hl, hn, hw, ok, hG, q⟩ := h
    refine ⟨_, (PSs.nox (pss_one (ps_ret (pe_callB call_len_seq (by rfl) T.z_len (by decide +kernel) (pa_cons (pe_call G_echelon_rows hr (by rfl) T.g_echelon_rows T.F_echelon_rows.kp T.b_echelon_rows .nil pass0 (pa_cons (pv 0) (pa_cons (pv 1) pa_nil))) pa_nil))))), ?_⟩
    refine ⟨_, rfl, _, rfl, t, as, rows, n, rfl, hS, hA, hl, hn, hw, ok, hG, fun p bs H1 s1 t1 e1 r1 => ⟨p, bs.map V.ref, rfl, .inl (SqL.of e1), ?_⟩⟩
    rw [List.length_map, r1.len]
    exact q H1 s1 t1
def spLRank : Sp := fun vs H Q _ => ∃ (t : Addr) (as : List Addr) (rows : List (List Int)) (n : Nat), vs = [.ref t, .int n] ∧ (H t = some (.tup (as.map V.ref)) ∨ H t = some (.lst (as.map V.ref))) ∧ RA H as rows ∧ rows.length ≤ 100 ∧ n ≤ 100 ∧ (∀ r ∈ rows, r.length = n) ∧
  EOk lless rows n ∧ ∀ H', Same H H' → Q (.int ((ech lless rows n).length : Nat)) H'
theorem ok_law_rank (T : Facts K mg) : FnOk P w K mg base CX0 5 T.f_law_rank T.fd_law_rank ["_law_rows", "_law_width"] spLRank := by
  have G_law_cleared := ok_law_cleared (P := P) (w := w) (base := base) T
  refine T.F_law_rank.ok sc_law_rank (fun vs H Q E h => ?_) (fun cdv A outer s H vs Q E hr h => ?_)
  · obtain ⟨t, as, rows, n, rfl, _⟩ := h
    rfl
  · obtain ⟨t, as, rows, n, rfl, hS, hA, hl, hn, hw, ok, q⟩ := h
    refine ⟨_, (PSs.nox (pss_one (ps_ret (pe_callB call_len_seq (by rfl) T.z_len (by decide +kernel) (pa_cons (pe_call G_law_cleared hr (by rfl) T.g_law_cleared T.F_law_cleared.kp T.b_law_cleared .nil pass0 (pa_cons (pv 0) (pa_cons (pv 1) pa_nil))) pa_nil))))), ?_⟩
    refine ⟨_, rfl, _, rfl, t, as, rows, n, rfl, hS, hA, hl, hn, hw, ok, fun p bs H1 s1 e1 r1 => ⟨p, bs.map V.ref, rfl, .inl (SqL.of e1), ?_⟩⟩
    rw [List.length_map, RX.len r1]
    exact q H1 s1
end
section
variable {P : Program} {w : World} {K : PySem.W.Frag} {mg : Str → Option Value} {base : Heap} {Ps : List Addr}
def spLeads : Sp := fun vs H Q _ => ∃ (t : Addr) (as : List Addr) (rows : List (List Int)) (n : Nat), vs = [.ref t] ∧ H t = some (.lst (as.map V.ref)) ∧ RT H as rows ∧ rows.length ≤ 100 ∧ n ≤ 100 ∧ (∀ r ∈ rows, r.length = n ∧ ld r < n) ∧
  ∀ p H', Same H H' → H' p = some (.lst ((rows.map fun t => (ld t : Int)).map V.int)) → Q (.ref p) H'
theorem ok_law_leads (T : Facts K mg) : FnOk P w K mg base CX0 1 T.f_law_leads T.fd_law_leads ["_law_rows"] spLeads := by
  refine T.F_law_leads.ok sc_law_leads (fun vs H Q E h => ?_) (fun cdv A outer s H vs Q E hr h => ?_)
  · obtain ⟨t, as, rows, n, rfl, _⟩ := h
    rfl
  · obtain ⟨t, as, rows, n, rfl, hS, hA, hl, hn, hw, q⟩ := h
    refine ⟨_, (PSs.nox (pss_one (ps_ret (pe_lc (own := [("_law_row", 3)]) (g := (gName 3)) (tt := tYes) (by rfl) sc_law_leads.nd (pi_list (pv 0)) (blkOk_by (N := N_law_leads) (sc := defScope s_law_leads) (by decide +kernel)) (fun _ _ _ _ _ => (pg_name (i := 3) sc_law_leads.nd rfl (.inl rfl))) (fun _ _ _ _ _ => pts_nil) (fun _ _ _ _ _ => (pe_ix (ix_list : IxR _ (rIxL K)) (pe_lc (own := [("_law_at", 1), ("_law_entry", 2)]) (g := (gTup K 2 (gCons (gName 1) (gCons (gName 2) gNil)))) (by rfl) sc_law_leads.nd (pi_enumT (by rfl) T.z_enumerate (pa_cons (pv 3) pa_nil) : PI _ _ _ (iEnumT K _)) (blkOk_by (N := N_law_leads) (sc := relS _ (defScope s_law_leads)) (by decide +kernel)) (fun _ _ _ _ _ => (pg_tup (by rfl) (pgs_cons (pg_name (i := 1) sc_law_leads.nd rfl (.inl rfl)) (pgs_cons (pg_name (i := 2) sc_law_leads.nd rfl (.inl rfl)) pgs_nil)))) (fun _ _ _ _ _ => (pts_one (pt_cmpR op_ne (pv 2) pe_int (nomark _)))) (fun _ _ _ _ _ => (pv 1))) pe_int (fun _ _ => rfl))))))), ?_⟩
    have alen := hA.len
    refine ⟨_, rfl, t, rfl, ⟨_, SqL.of hS⟩, fun L hL => ?_⟩
    refine lc_list (xs := as.map V.ref) (fun j H' => Same H H' ∧ H' L = some (.lst (((rows.take j).map fun t => (ld t : Int)).map V.int))) ⟨same_upd0 hL, upd_same⟩ (fun j H' _ hP => SqL.of (hP.1 _ _ hS)) (fun j x H' hx hP => ?_) (fun H3 hP => ?_)
    · obtain ⟨sH, hL'⟩ := hP
      rw [List.getElem?_map] at hx
      obtain ⟨a, ha, rfl⟩ := Option.map_eq_some_iff.mp hx
      obtain ⟨a', r, g1, g2, g3⟩ := RX.get hA (by rw [← alen]; exact (List.getElem?_eq_some_iff.mp ha).1)
      rw [ha] at g1
      cases g1
      have hr2 := hw r (List.mem_of_getElem? g2)
      have ga := sH _ _ g3
      refine ⟨rfl, _, rfl, a, _, rfl, SqT.of ga, fun D hD => ?_⟩
      refine lc_enumT (xs := r.map V.int) (fun j H3 => Same H' H3 ∧ H3 D = some (.lst ((((List.range j).filter fun k => co r k != 0).map fun (k : Nat) => (k : Int)).map V.int))) ⟨same_upd0 hD, upd_same⟩ (fun j H3 _ hP => SqT.of (hP.1 _ _ ga)) (fun j x A H3 hx hP hA => ?_) (fun H3 hP => ?_)
      · obtain ⟨s3, h3⟩ := hP
        obtain ⟨hj, rfl⟩ := int_get hx
        have sA := same_upd0 (o := .tup [.int (j : Nat), .int (co r j)]) hA
        refine ⟨A, _, rfl, SqT.of upd_same, rfl, _, _, rfl, _, _, rfl, rfl, rfl, _, rfl, rfl, _, rfl, ?_⟩
        rw [List.range_succ, List.filter_append]
        by_cases d : co r j = 0
        · rw [decide_eq_true (show V.int (co r j) = V.int 0 by rw [d])]
          refine iteF ⟨fun b o e => sA _ _ (s3 _ _ e), ?_⟩
          rw [sA _ _ h3, List.filter_cons_of_neg (by rw [d]; decide), List.filter_nil, List.append_nil]
        · rw [decide_eq_false fun z => d (V.int.inj z)]
          refine iteT ⟨_, rfl, _, sA _ _ h3, ?_, fun b o e => ?_, ?_⟩
          · rw [List.length_map, List.length_map]
            have h1 := List.length_filter_le (fun k => co r k != 0) (List.range j)
            rw [List.length_range] at h1
            exact small1000 (by omega)
          · rw [upd_ne (ne_of_none e hD)]
            exact sA _ _ (s3 _ _ e)
          · rw [upd_same, List.filter_cons_of_pos (by simpa using d), List.filter_nil, List.map_append, List.map_append]
            rfl
      · obtain ⟨s3, h3⟩ := hP
        rw [List.length_map] at h3
        have h3 : H3 D = some (.lst ((nzs r).map V.int)) := h3
        refine ⟨D, _, 0, .int (ld r : Nat), rfl, rfl, SqL.of h3, atI_nat (j := 0) (by rw [List.getElem?_map, nzs_ld (by rw [hr2.1]; exact hr2.2)]; rfl), _, s3 _ _ hL', ?_, fun b o e => ?_, ?_⟩
        · rw [List.length_map, List.length_map, List.length_take]
          exact small1000 (by omega)
        · rw [upd_ne (ne_of_none e hL)]
          exact s3 _ _ (sH _ _ e)
        · rw [upd_same, List.take_add_one, g2, List.map_append, List.map_append]
          rfl
    · obtain ⟨s3, h3⟩ := hP
      rw [List.length_map, alen, List.take_length] at h3
      exact q L H3 s3 h3
end
section
variable {P : Program} {w : World} {K : PySem.W.Frag} {mg : Str → Option Value} {base : Heap} {Ps : List Addr}
def spLKern : Sp := fun vs H Q _ => ∃ (t : Addr) (as : List Addr) (rows : List (List Int)) (n : Nat), vs = [.ref t, .int n] ∧ (H t = some (.tup (as.map V.ref)) ∨ H t = some (.lst (as.map V.ref))) ∧ RA H as rows ∧ rows.length ≤ 100 ∧ n ≤ 100 ∧ (∀ r ∈ rows, r.length = n) ∧
  EOk lless rows n ∧ (∀ t ∈ ech lless rows n, t.length = n ∧ ld t < n) ∧ KOk (ech lless rows n) ∧ EOk lless (lkvs (ech lless rows n) n) n ∧ ∀ p bs H', Same H H' → H' p = some (.lst (bs.map V.ref)) → RT H' bs (ech lless (lkvs (ech lless rows n) n) n) → Q (.ref p) H'
theorem ok_law_kernel (T : Facts K mg) : FnOk P w K mg base CX0 5 T.f_law_kernel T.fd_law_kernel ["_law_rows", "_law_width"] spLKern := by
  have G_law_cleared := ok_law_cleared (P := P) (w := w) (base := base) T
  have G_law_leads := ok_law_leads (P := P) (w := w) (base := base) T
  have G_law_gcd := ok_law_gcd (P := P) (w := w) (base := base) T
  refine T.F_law_kernel.ok sc_law_kernel (fun vs H Q E h => ?_) (fun cdv A outer s H vs Q E hr h => ?_)
  · obtain ⟨t, as, rows, n, rfl, _⟩ := h
    rfl
  · obtain ⟨t, as, rows, n, rfl, hS, hA, hl, hn, hw, ok, hT, hk, ok2, q⟩ := h
    refine ⟨_, (PSs.nox (pss_cons (ps_set (i := 2) sc_law_kernel.nd rfl (.inl rfl) (pe_call G_law_cleared hr (by rfl) T.g_law_cleared T.F_law_cleared.kp T.b_law_cleared .nil pass0 (pa_cons (pv 0) (pa_cons (pv 1) pa_nil))))
    (pss_cons (ps_asg (pe_tup (pa_cons (pe_call G_law_leads (hr.mono (by decide)) (by rfl) T.g_law_leads T.F_law_leads.kp T.b_law_leads .nil pass0 (pa_cons (pv 2) pa_nil)) (pa_cons (pe_lst pa_nil) pa_nil))) (pg_tup (by rfl) (pgs_cons (pg_name (i := 3) sc_law_kernel.nd rfl (.inr rfl)) (pgs_cons (pg_name (i := 4) sc_law_kernel.nd rfl (.inl rfl)) pgs_nil))))
    (pss_cons (ps_for PassesOwn.never (by rfl) (pi_list (pe_lc (own := [("_law_place", 6)]) (g := (gName 6)) (by rfl) sc_law_kernel.nd (pi_range1 (by rfl) T.z_range (pa_cons (pv 1) pa_nil)) (blkOk_by (N := N_law_kernel) (sc := defScope s_law_kernel) (by decide +kernel)) (fun _ _ _ _ _ => (pg_name (i := 6) sc_law_kernel.nd rfl (.inl rfl))) (fun _ _ _ _ _ => (pts_one (pt_cmpR (op_notIn_seq : OpR _ (compareOp .NotIn) (rIn K true)) (pv 6) (pv 3) (by rfl)))) (fun _ _ _ _ _ => (pv 6)))) (pg_name (i := 5) sc_law_kernel.nd rfl (.inl rfl))
      (pss_cons (ps_set (i := 7) sc_law_kernel.nd rfl (.inl rfl) pe_int)
      (pss_cons (ps_for PassesOwn.never (by rfl) (pi_zipA (by rfl) T.z_zip (pa_cons (pv 2) (pa_cons (pv 3) pa_nil))) (pg_tup (by rfl) (pgs_cons (pg_name (i := 8) sc_law_kernel.nd rfl (.inl rfl)) (pgs_cons (pg_name (i := 9) sc_law_kernel.nd rfl (.inl rfl)) pgs_nil)))
        (pss_one (ps_set (i := 7) sc_law_kernel.nd rfl (.inl rfl) (pe_op op_mulW (pv 7) (pe_op FDivQ.op_fdivQ (pe_ix ix_tup (pv 8) (pv 9) (fun _ _ => rfl)) (pe_call G_law_gcd (hr.mono (by decide)) (by rfl) T.g_law_gcd T.F_law_gcd.kp T.b_law_gcd .nil pass0 (pa_cons (pv 7) (pa_cons (pe_ix ix_tup (pv 8) (pv 9) (fun _ _ => rfl)) pa_nil))))))))
      (pss_cons (ps_setLc (i := 10) (own := [("_law_place", 6)]) (g := (gName 6)) (tt := tYes) rfl sc_law_kernel.nd rfl rfl (sw_true rfl rfl rfl (by decide +kernel)) (pi_range1 (by rfl) T.z_range (pa_cons (pv 1) pa_nil)) (blkOk_by (N := N_law_kernel) (sc := defScope s_law_kernel) (by decide +kernel)) (fun _ _ _ _ _ => (pg_name (i := 6) sc_law_kernel.nd rfl (.inl rfl))) (fun _ _ _ _ _ => pts_nil) (fun _ _ _ _ _ => pe_int))
      (pss_cons (ps_asg (pv 7) (pg_sub (pv 10) (pv 5) set_list))
      (pss_cons (ps_for PassesOwn.never (by rfl) (pi_zipA (by rfl) T.z_zip (pa_cons (pv 2) (pa_cons (pv 3) pa_nil))) (pg_tup (by rfl) (pgs_cons (pg_name (i := 8) sc_law_kernel.nd rfl (.inl rfl)) (pgs_cons (pg_name (i := 9) sc_law_kernel.nd rfl (.inl rfl)) pgs_nil)))
        (pss_one (ps_asg (pe_op op_sub pe_int (pe_op FDivQ.op_fdivQ (pe_op op_mulW (pv 7) (pe_ix ix_tup (pv 8) (pv 5) (fun _ _ => rfl))) (pe_ix ix_tup (pv 8) (pv 9) (fun _ _ => rfl)))) (pg_sub (pv 10) (pv 9) set_list))))
      (pss_one (ps_expr (pe_bm PySem.F.plainAttrs_list PySem.F.slot_list_append PySem.F.type_list_append mt_append (pv 4) (pa_cons (pe_tupleOf (by rfl) T.z_tuple (pv 10)) pa_nil))))))))))
    (pss_one (ps_ret (pe_call G_law_cleared hr (by rfl) T.g_law_cleared T.F_law_cleared.kp T.b_law_cleared .nil pass0 (pa_cons (pv 4) (pa_cons (pv 1) pa_nil))))))))), ?_⟩
    refine ⟨_, rfl, _, rfl, t, as, rows, n, rfl, hS, hA, hl, hn, hw, ok, fun p bs H1 s1 e1 r1 => ?_⟩
    have hTl : (ech lless rows n).length ≤ 100 := by
      unfold ech
      rw [List.length_map]
      have := eS_cnt lless rows n
      omega
    generalize ech lless rows n = Tl at hT hk ok2 q r1 hTl ⊢
    have blen := RX.len r1
    refine ⟨_, rfl, p, bs, Tl, n, rfl, e1, r1, hTl, hn, hT, fun L H2 s2 l2 => ?_⟩
    have s3 : Same H H2 := fun b o e => s2 _ _ (s1 _ _ e)
    have e3 := s2 _ _ e1
    have r3 := r1.same s2
    clear s2 s1 e1 r1
    dsimp only [tCons, tLst, tNil]
    refine ⟨by decide, fun F hF => ⟨(show 2 ≤ sizeLine by decide), fun U hU => ?_⟩⟩
    refine ⟨U, _, rfl, SqT.of upd_same, rfl, _, _, rfl, _, _, rfl, rfl, ?_⟩
    have nF : ∀ b o, H b = some o → b ≠ F := fun b o e => ne_of_none (s3 _ _ e) hF
    have pF : p ≠ F := ne_of_none e3 hF
    have bF : ∀ a ∈ bs, a ≠ F := fun a ha => by
      obtain ⟨r, _, e⟩ := RX.memA r3 ha
      exact ne_of_none e hF
    have nLF : L ≠ F := ne_of_none l2 hF
    have sU : Same H2 (upd (upd H2 F (.lst [])) U (.tup [V.ref L, V.ref F])) := fun b o e => same_upd0 hU _ _ (same_upd0 hF _ _ e)
    have f4 := same_upd0 (o := .tup [V.ref L, V.ref F]) hU _ _ (show (upd H2 F (.lst [])) F = some (.lst []) from upd_same)
    have s4 : Same H _ := fun b o e => sU _ _ (s3 _ _ e)
    have e4 := sU _ _ e3
    have l4 := sU _ _ l2
    have r4 := r3.same sU
    generalize upd (upd H2 F (.lst [])) U (.tup [V.ref L, V.ref F]) = H4 at s4 e4 l4 r4 f4 ⊢
    clear sU hU s3 e3 l2 r3 hF
    refine ⟨_, rfl, _, rfl, by omega, by omega, fun D hD => ?_⟩
    refine lc_range (n := n) (fun j H' => Same H4 H' ∧ H' D = some (.lst ((frees Tl j).map fun p : Nat => V.int (p : Int)))) ⟨same_upd0 hD, upd_same⟩ (fun j H' hj hP => ?_) (fun H5 hP => ?_)
    · obtain ⟨sH, hL'⟩ := hP
      rw [Int.zero_add]
      refine ⟨rfl, _, rfl, _, rfl, L, _, rfl, .inl (SqL.of (sH _ _ l4)), rfl, flat_ints _, _, rfl, ?_⟩
      rw [if_pos rfl, inV_ld]
      unfold frees at hL' ⊢
      rw [List.range_succ, List.filter_append]
      cases d : (Tl.map ld).contains j with
      | true =>
        refine iteF ⟨sH, ?_⟩
        rw [hL', List.filter_cons_of_neg (by simp only [d, Bool.not_true, Bool.false_eq_true, not_false_eq_true]), List.filter_nil, List.append_nil]
      | false =>
        refine iteT ⟨_, rfl, _, hL', ?_, fun b o e => ?_, ?_⟩
        · rw [List.length_map]
          have h1 := List.length_filter_le (fun p => !(Tl.map ld).contains p) (List.range j)
          rw [List.length_range] at h1
          exact small1000 (by omega)
        · rw [upd_ne (ne_of_none e hD)]
          exact sH _ _ e
        · rw [upd_same, List.filter_cons_of_pos (by simp only [d, Bool.not_false]), List.filter_nil, List.map_append]
          rfl
    · obtain ⟨s5, d5⟩ := hP
      have e5 := s5 _ _ e4
      have l5 := s5 _ _ l4
      have f5 := s5 _ _ f4
      have r5 := r4.same s5
      have s5' : Same H H5 := fun b o e => s5 _ _ (s4 _ _ e)
      have nDF : D ≠ F := fun e => by
        rw [e, f4] at hD
        cases hD
      clear s5 e4 l4 f4 r4 s4
      refine ⟨D, rfl, ⟨_, SqL.of d5⟩, for_list (xs := (frees Tl n).map fun p : Nat => V.int (p : Int)) (fun i σ H' => ∃ fs y5 y7 y8 y9 y10, σ = [some (.ref t), some (.int n), some (.ref p), some (.ref L), some (.ref F), y5, none, y7, y8, y9, y10] ∧ Same H H' ∧ H' p = some (.lst (bs.map V.ref)) ∧ H' L = some (.lst ((Tl.map fun t => (ld t : Int)).map V.int)) ∧ RT H' bs Tl ∧ H' D = some (.lst ((frees Tl n).map fun p : Nat => V.int (p : Int))) ∧ H' F = some (.lst (fs.map V.ref)) ∧ RT H' fs (((frees Tl n).take i).map (lkone Tl n)) ∧ ∀ a ∈ fs, a ≠ F) ⟨[], none, none, none, none, none, rfl, s5', e5, l5, r5, d5, f5, True.intro, fun a ha => absurd ha List.not_mem_nil⟩ (fun i σ H' _ hP => by
        obtain ⟨fs, y5, y7, y8, y9, y10, _, _, _, _, _, d6, _⟩ := hP
        exact SqL.of d6) (fun i x σ H6 hx hP => ?_) (fun σ H6 hP => ?_)⟩
      · obtain ⟨fs, y5, y7, y8, y9, y10, rfl, s6, e6, l6, r6, d6, f6, g6, n6⟩ := hP
        rw [List.getElem?_map] at hx
        obtain ⟨fr, hfr, rfl⟩ := Option.map_eq_some_iff.mp hx
        have hfn := frees_lt (List.mem_of_getElem? hfr)
        refine ⟨_, rfl, _, rfl, p, L, bs.map V.ref, (Tl.map fun t => (ld t : Int)).map V.int, rfl, .inl ⟨SqL.of e6, SqL.of l6, for_zipL (xs := bs.map V.ref) (ys := (Tl.map fun t => (ld t : Int)).map V.int) (by rw [List.length_map, List.length_map, List.length_map, blen]) (fun i σ H' => ∃ y8 y9, σ = [some (.ref t), some (.int n), some (.ref p), some (.ref L), some (.ref F), some (.int (fr : Nat)), none, some (.int (whl (Tl.take i))), y8, y9, y10] ∧ Same H6 H') ⟨y8, y9, rfl, fun _ _ e => e⟩ (fun i σ H' hP => by
          obtain ⟨y5, y7, _, sH⟩ := hP
          exact ⟨SqL.of (sH _ _ e6), SqL.of (sH _ _ l6)⟩) (fun i x y A σ H' hx hy hP hA => ?_) (fun σ H7 hP => ?_)⟩⟩
        · obtain ⟨y8, y9, rfl, sH⟩ := hP
          rw [List.getElem?_map] at hx
          obtain ⟨a, ha, rfl⟩ := Option.map_eq_some_iff.mp hx
          obtain ⟨a', r, g1, g2, g3⟩ := RX.get r6 (by rw [← blen]; exact (List.getElem?_eq_some_iff.mp ha).1)
          rw [ha] at g1
          cases g1
          rw [List.getElem?_map, List.getElem?_map, g2] at hy
          obtain rfl : V.int (ld r : Int) = y := Option.some.inj hy
          have hr2 := hT r (List.mem_of_getElem? g2)
          have sA := same_upd0 (o := .tup [.ref a, .int (ld r : Int)]) hA
          have gA := sA _ _ (sH _ _ g3)
          have k1 := hk.c1 _ _ _ (take_split g2)
          have k2 := hk.m1 _ _ _ (take_split g2)
          have ix : atI (r.map V.int) ((ld r : Nat) : Int) = some (.int (le0 r)) := atI_nat (get_int (by rw [hr2.1]; exact hr2.2))
          refine ⟨A, _, rfl, SqT.of upd_same, rfl, _, _, rfl, _, _, rfl, rfl, _, rfl, _, rfl, _, rfl, a, _, _, .int (le0 r), rfl, rfl, SqT.of gA, ix, _, rfl, _, rfl, _, rfl, a, _, _, .int (le0 r), rfl, rfl, SqT.of gA, ix, _, _, rfl, _, _, rfl, rfl, k1, _, _, rfl, rfl, k2, some (.ref a), some (.int (ld r : Nat)), ?_, fun b o e => sA _ _ (sH _ _ e)⟩
          rw [List.take_add_one, g2, show (some r).toList = [r] from rfl, whl_snoc]
          rfl
        · obtain ⟨y8, y9, rfl, s7⟩ := hP
          rw [List.length_map, blen, List.take_length]
          refine ⟨_, rfl, _, rfl, by omega, by omega, fun O hO => ?_⟩
          have nO : H6 O = none := by
            cases e : H6 O with
            | none => rfl
            | some o =>
              rw [s7 _ _ e] at hO
              cases hO
          refine lc_range (n := n) (fun j H' => Same H6 H' ∧ H' O = some (ls (List.replicate j 0))) ⟨fun b o e => same_upd0 hO _ _ (s7 _ _ e), upd_same⟩ (fun j H' hj hP => ?_) (fun H7 hP => ?_)
          · obtain ⟨sH, hO'⟩ := hP
            refine ⟨rfl, _, hO', ?_, fun b o e => ?_, ?_⟩
            · rw [List.length_map, List.length_replicate]
              exact small1000 (by omega)
            · rw [upd_ne (ne_of_none e nO)]
              exact sH _ _ e
            · rw [upd_same, ls, List.replicate_succ', List.map_append]
              rfl
          · obtain ⟨s7, o7⟩ := hP
            refine ⟨_, rfl, _, rfl, _, rfl, O, _, _, fr, rfl, rfl, o7, ixN_at (by rw [List.length_map, List.length_replicate]; exact hfn), ?_⟩
            have s8 : Same H6 (upd H7 O (.lst (((List.replicate n (0 : Int)).map V.int).set fr (.int (whl Tl))))) := fun b o e => by
              rw [upd_ne (ne_of_none e nO)]
              exact s7 _ _ e
            have o8 : (upd H7 O (.lst (((List.replicate n (0 : Int)).map V.int).set fr (.int (whl Tl))))) O = some (ls (k0 (whl Tl) n fr)) := by
              rw [upd_same, k0, ls, List.map_set]
            generalize upd H7 O (.lst (((List.replicate n (0 : Int)).map V.int).set fr (.int (whl Tl)))) = H8 at s8 o8 ⊢
            clear s7 o7
            refine ⟨_, rfl, _, rfl, p, L, bs.map V.ref, (Tl.map fun t => (ld t : Int)).map V.int, rfl, .inl ⟨SqL.of (s8 _ _ e6), SqL.of (s8 _ _ l6), for_zipL (xs := bs.map V.ref) (ys := (Tl.map fun t => (ld t : Int)).map V.int) (by rw [List.length_map, List.length_map, List.length_map, blen]) (fun i σ H' => ∃ y8 y9, σ = [some (.ref t), some (.int n), some (.ref p), some (.ref L), some (.ref F), some (.int (fr : Nat)), none, some (.int (whl Tl)), y8, y9, some (.ref O)] ∧ Same H6 H' ∧ H' O = some (ls ((Tl.take i).foldl (lst' (whl Tl) fr) (k0 (whl Tl) n fr)))) ⟨y8, y9, rfl, s8, o8⟩ (fun i σ H' hP => by
              obtain ⟨y5, y7, _, sH, _⟩ := hP
              exact ⟨SqL.of (sH _ _ e6), SqL.of (sH _ _ l6)⟩) (fun i x y A σ H' hx hy hP hA => ?_) (fun σ H9 hP => ?_)⟩⟩
            · obtain ⟨y8, y9, rfl, sH, oH⟩ := hP
              rw [List.getElem?_map] at hx
              obtain ⟨a, ha, rfl⟩ := Option.map_eq_some_iff.mp hx
              obtain ⟨a', r, g1, g2, g3⟩ := RX.get r6 (by rw [← blen]; exact (List.getElem?_eq_some_iff.mp ha).1)
              rw [ha] at g1
              cases g1
              rw [List.getElem?_map, List.getElem?_map, g2] at hy
              obtain rfl : V.int (ld r : Int) = y := Option.some.inj hy
              have hm := List.mem_of_getElem? g2
              have hr2 := hT r hm
              have sA := same_upd0 (o := .tup [.ref a, .int (ld r : Int)]) hA
              have gA := sA _ _ (sH _ _ g3)
              have ix : atI (r.map V.int) ((ld r : Nat) : Int) = some (.int (le0 r)) := atI_nat (get_int (by rw [hr2.1]; exact hr2.2))
              have ix2 : atI (r.map V.int) ((fr : Nat) : Int) = some (.int (co r fr)) := atI_nat (get_int (by rw [hr2.1]; exact hfn))
              have fl : (List.foldl (lst' (whl Tl) fr) (k0 (whl Tl) n fr) (Tl.take i)).length = n := by rw [fold_len (lst_len _ _), k0_len]
              refine ⟨A, _, rfl, SqT.of upd_same, rfl, _, _, rfl, _, _, rfl, rfl, _, rfl, _, rfl, _, rfl, a, _, _, .int (co r fr), rfl, rfl, SqT.of gA, ix2, _, _, rfl, rfl, hk.m3 r hm fr, _, rfl, _, rfl, a, _, _, .int (le0 r), rfl, rfl, SqT.of gA, ix, _, _, rfl, rfl, hk.c3 r hm fr, _, _, rfl, rfl, _, rfl, _, rfl, O, _, _, ld r, rfl, rfl, sA _ _ oH, ixN_at (by rw [List.length_map, fl]; exact hr2.2), some (.ref a), some (.int (ld r : Nat)), rfl, fun b o e => ?_, ?_⟩
              · rw [upd_ne (ne_of_none e nO)]
                exact sA _ _ (sH _ _ e)
              · rw [upd_same, List.take_add_one, g2, List.foldl_append]
                show some (HO.lst _) = some (HO.lst ((lst' (whl Tl) fr _ r).map V.int))
                unfold lst'
                rw [List.map_set]
            · obtain ⟨y8, y9, rfl, sH, oH⟩ := hP
              rw [List.length_map, blen, List.take_length] at oH
              have oH : H9 O = some (ls (lkone Tl n fr)) := oH
              have fl := g6.len
              rw [List.length_map] at fl
              have hi : i < (frees Tl n).length := (List.getElem?_eq_some_iff.mp hfr).1
              have hi2 := frees_len Tl n
              rw [List.length_take] at fl
              have fH := sH _ _ f6
              refine ⟨_, rfl, .inl ⟨rfl, _, SqL.of fH⟩, ?_⟩
              refine ⟨_, rfl, .inl ⟨O, _, rfl, SqL.of oH, fun N hN => ?_⟩⟩
              have sN : Same H6 (upd H9 N (.tup ((lkone Tl n fr).map V.int))) := fun b o e => same_upd0 hN _ _ (sH _ _ e)
              have fN := sN _ _ f6
              have nNF : N ≠ F := fun e => by
                rw [e, fH] at hN
                cases hN
              refine ⟨F, _, _, rfl, rfl, fN, by rw [List.length_map]; exact small1000 (by omega), fs ++ [N], _, _, y8, y9, _, rfl, fun b o e => ?_, ?_, ?_, (r6.same sN).updN bF, ?_, ?_, ?_, fun a ha => ?_⟩
              · rw [upd_ne (nF b o e)]
                exact sN _ _ (s6 b o e)
              · rw [upd_ne pF]
                exact sN _ _ e6
              · rw [upd_ne nLF]
                exact sN _ _ l6
              · rw [upd_ne nDF]
                exact sN _ _ d6
              · rw [upd_same, List.map_append]
                rfl
              · rw [List.take_add_one, hfr, List.map_append]
                refine RX.snoc ((g6.same sN).updN n6) ?_
                show upd (upd H9 N _) F _ N = _
                rw [upd_ne nNF, upd_same]
              · rcases List.mem_append.mp ha with ha | ha
                · exact n6 a ha
                · rw [List.mem_singleton.mp ha]
                  exact nNF
      · obtain ⟨fs, y5, y7, y8, y9, y10, rfl, s6, e6, l6, r6, d6, f6, g6, n6⟩ := hP
        rw [List.length_map, List.take_length] at g6
        have g6 : RT H6 fs (lkvs Tl n) := g6
        have hi2 := frees_len Tl n
        refine ⟨_, rfl, _, rfl, F, fs, lkvs Tl n, n, rfl, .inr f6, RX.imp (fun a r e => .inl e) g6, by unfold lkvs; rw [List.length_map]; omega, hn, fun r hr => ?_, ok2, fun p bs H' s7 e7 r7 => q p bs H' (fun b o e => s7 _ _ (s6 _ _ e)) e7 r7⟩
        obtain ⟨f, hf, rfl⟩ := List.mem_map.mp hr
        exact lkone_len _ _ _
end
end K65

set_option Elab.async false
set_option linter.all false
set_option maxRecDepth 100000
set_option maxHeartbeats 2000000
set_option exponentiation.threshold 10000
/-! kernels of level tables of forms of degrees to eight: all that both kernels ask -/
namespace K65
open PySem PySem.Spec PyProof.Rows L2 FDivQ LA
theorem lst_kst {T : List (List Int)} {W : Int} {f : Nat} (h : ∀ t ∈ T, le0 t ≠ 0 ∧ le0 t ∣ W) : ∀ (U : List (List Int)) (o : List Int), (∀ t ∈ U, t ∈ T) → U.foldl (lst' W f) o = U.foldl (kst W f) o
  | [], _, _ => rfl
  | t :: U, o, hU => by
    rw [List.foldl_cons, List.foldl_cons, lst_kst h U _ fun u hu => hU u (List.mem_cons_of_mem _ hu)]
    congr 1
    obtain ⟨h0, q, hq⟩ := h t (hU t List.mem_cons_self)
    unfold lst' kst
    congr 1
    rw [hq, Int.mul_assoc, Int.mul_fdiv_cancel_left _ h0, Int.mul_fdiv_cancel_left _ h0]
    grind
/-- the greatest level entry -/
abbrev M8 : Nat := 40320 * 10 ^ 14
theorem n9 : BdE 9 M8 < 2 ^ 4470 := by decide +kernel
theorem n5 : (BdE 5 M8) ^ 6 < 2 ^ 4470 := by decide +kernel
theorem nW (r : Nat) (h : r ≤ 5) : BdE (10 - 2 * r) ((BdE r M8 + 1) ^ (r + 1)) < 2 ^ 3900 := by
  have : r = 0 ∨ r = 1 ∨ r = 2 ∨ r = 3 ∨ r = 4 ∨ r = 5 := by omega
  rcases this with rfl | rfl | rfl | rfl | rfl | rfl <;> decide +kernel
structure KB (rows : List (List Int)) (w : Nat) : Prop where
  e : EOk less rows w
  t : ∀ t ∈ ech less rows w, t.length = w ∧ ld t < w
  k : KOk (ech less rows w)
  e2 : EOk less (kvs (ech less rows w) w) w
  le : EOk lless rows w
  lt : ∀ t ∈ ech lless rows w, t.length = w ∧ ld t < w
  lk : KOk (ech lless rows w)
  le2 : EOk lless (lkvs (ech lless rows w) w) w
  ke : ech lless (lkvs (ech lless rows w) w) w = kern rows w
  re : (ech lless rows w).length = (ech less rows w).length
  len : ∀ k ∈ kern rows w, k.length = w
  bd : ∀ k ∈ kern rows w, ∀ j, (co k j).natAbs < 2 ^ 3900
  cnt : (kern rows w).length ≤ w
theorem kb {rows : List (List Int)} {w : Nat} (hw : ∀ r ∈ rows, r.length = w) (h10 : rows.length + w ≤ 10) (w1 : 1 ≤ w) (hM : ∀ r ∈ rows, ∀ x ∈ r, x.natAbs ≤ M8) : KB rows w := by
  have hT := told lePP (M := M8) hw hM
  have e1 := ech_eq hw
  have r8 : (ech less rows w).length ≤ rows.length := ech_len_le less rows w
  have rl := hT.le_n
  have num : BdE rows.length M8 < 2 ^ 4470 := Nat.lt_of_le_of_lt (Bd_mono (by omega)) n9
  have eP := eokP hw hM num
  have eL := eokL hw hM num
  generalize hTl : ech less rows w = T at hT e1 r8 rl
  have lead : ∀ t ∈ T, t.length = w ∧ ld t < w := fun t ht => ⟨hT.len t ht, hT.lt t ht⟩
  have kv1 := kv hT
  have B1 : 1 ≤ BdE 5 M8 := by decide +kernel
  have ko : KOk T := kok (B := BdE 5 M8) hT.nz (fun t ht j => Nat.le_trans (hT.bd t ht j) (Bd_mono (by omega))) B1 (Nat.lt_of_le_of_lt (Nat.pow_le_pow_right B1 (by omega)) n5)
  have cnt := frees_cnt hT.lt hT.nodup
  have kl : ∀ r ∈ kvs T w, r.length = w := fun r hr => by
    obtain ⟨f, _, rfl⟩ := List.mem_map.mp hr
    exact kone_len _ _ _
  have kb : ∀ r ∈ kvs T w, ∀ x ∈ r, x.natAbs ≤ (BdE T.length M8 + 1) ^ (T.length + 1) := fun r hr x hx => by
    obtain ⟨f, hf, rfl⟩ := List.mem_map.mp hr
    obtain ⟨j, _, e⟩ := mem_co hx
    rw [← e]
    exact kv1.bd _ (fun t ht j => Nat.le_succ_of_le (hT.bd t ht j)) (Nat.succ_pos _) f hf j
  have kc : (kvs T w).length = (frees T w).length := List.length_map ..
  have kn : BdE (kvs T w).length ((BdE T.length M8 + 1) ^ (T.length + 1)) < 2 ^ 3900 := Nat.lt_of_le_of_lt (Bd_mono (by omega)) (nW T.length (by omega))
  have kn2 : BdE (kvs T w).length ((BdE T.length M8 + 1) ^ (T.length + 1)) < 2 ^ 4470 := Nat.lt_trans kn (by decide +kernel)
  have ek : lkvs T w = kvs T w := by
    unfold lkvs kvs
    refine List.map_congr_left fun f _ => ?_
    unfold lkone kone
    exact lst_kst (T := T) (fun t ht => ⟨hT.nz t ht, (whl_ok fun u hu => ⟨hT.nz u hu, hT.bd u hu _⟩).2.1 t ht⟩) T _ fun u hu => hu
  have hK := told lePP kl kb
  have kk : kern rows w = ech less (kvs T w) w := by
    unfold kern
    rw [hTl]
  refine ⟨eP, ?_, ?_, ?_, eL, ?_, ?_, ?_, ?_, ?_, ?_, ?_, by have := (ks hw).cnt; omega⟩
  · rw [hTl]; exact lead
  · rw [hTl]; exact ko
  · rw [hTl]; exact eokP kl kb kn2
  · rw [← e1]; exact lead
  · rw [← e1]; exact ko
  · rw [← e1, ek]; exact eokL kl kb kn2
  · rw [← e1, ek, kk, ech_eq kl]
  · rw [← e1, hTl]
  · rw [kk]; exact hK.len
  · rw [kk]
    intro k hk j
    refine Nat.lt_of_le_of_lt (hK.bd k hk j) (Nat.lt_of_le_of_lt (Bd_mono ?_) kn)
    exact ech_len_le _ _ _
end K65

set_option Elab.async false
set_option linter.all false
set_option maxRecDepth 100000
set_option maxHeartbeats 4000000
set_option exponentiation.threshold 10000
/-! walks: the law's levels -/
namespace K65
open PySem PySem.Spec PyProof.Rows L2 StX RZ MyR SlX OwnR OwnF EnumT GxR GenNx FDivQ LA
section
variable {P : Program} {w : World} {K : PySem.W.Frag} {mg : Str → Option Value} {base : Heap} {Ps : List Addr}
theorem ok_law_levels (T : Facts K mg) : FnOk P w K mg base CX0 1 T.f_law_levels T.fd_law_levels ["_law_entries"] spLevE := by
  refine T.F_law_levels.ok sc_law_levels (fun vs H Q E h => ?_) (fun cdv A outer s H vs Q E hr h => ?_)
  · obtain ⟨a, l, rfl, _⟩ := h
    rfl
  · obtain ⟨a, l, rfl, ha, hl, q⟩ := h
    have l1 := hl.l1
    have l8 := hl.l8
    refine ⟨_, (PSs.nox (pss_cons (ps_par3 (i := 1) (j := 2) (l := 3) (by rfl) sc_law_levels.nd rfl rfl rfl (by decide) (by decide) (by decide) rfl rfl rfl (pa_cons (pe_op op_sub (pe_callB call_len_seq (by rfl) T.z_len (by decide +kernel) (pa_cons (pv 0) pa_nil)) pe_int) (pa_cons (pe_lst pa_nil) (pa_cons (pe_lst (pa_cons pe_int pa_nil)) pa_nil))) (by rfl))
    (pss_cons (ps_for PassesOwn.never (by rfl) (pi_range2 (by rfl) T.z_range (pa_cons pe_int (pa_cons (pe_op op_add (pv 1) pe_int) pa_nil))) (pg_name (i := 4) sc_law_levels.nd rfl (.inl rfl))
      (pss_one (ps_expr (pe_bm PySem.F.plainAttrs_list PySem.F.slot_list_append PySem.F.type_list_append mt_append (pv 3) (pa_cons (pe_op op_mulW (pe_ix ix_list (pv 3) (pe_un un_neg pe_int) (fun _ _ => rfl)) (pv 4)) pa_nil)))))
    (pss_cons (ps_for PassesOwn.never (by rfl) (pi_enumT (by rfl) T.z_enumerate (pa_cons (pv 0) pa_nil)) (pg_tup (by rfl) (pgs_cons (pg_name (i := 5) sc_law_levels.nd rfl (.inl rfl)) (pgs_cons (pg_name (i := 6) sc_law_levels.nd rfl (.inl rfl)) pgs_nil)))
      (pss_one (ps_expr (pe_bm PySem.F.plainAttrs_list PySem.F.slot_list_append PySem.F.type_list_append mt_append (pv 2) (pa_cons (pe_op op_mulW (pe_op op_mulW (pe_ix ix_list (pv 3) (pv 5) (fun _ _ => rfl)) (pe_ix ix_list (pv 3) (pe_op op_sub (pv 1) (pv 5)) (fun _ _ => rfl))) (pv 6)) pa_nil)))))
    (pss_one (ps_ret (pv 2))))))), ?_⟩
    refine ⟨_, rfl, a, _, rfl, .inr (SqT.of ha), _, _, rfl, rfl, ?_⟩
    rw [List.length_map]
    dsimp only [tCons, tLst, tNil, tC]
    refine ⟨by decide, fun F hF => ⟨by decide, fun U hU => ⟨_, _, _, rfl, ?_⟩⟩⟩
    have nU : H U = none := by
      cases e : H U with
      | none => rfl
      | some o =>
        rw [same_upd0 hF _ _ e] at hU
        cases hU
    have FU : F ≠ U := fun e => by
      rw [← e, upd_same] at hU
      cases hU
    have s0 : Same H (upd (upd H F (.lst [])) U (.lst [V.int 1])) := fun b o e => same_upd0 hU _ _ (same_upd0 hF _ _ e)
    have f0 : (upd (upd H F (.lst [])) U (.lst [V.int 1])) F = some (.lst []) := same_upd0 hU _ _ upd_same
    have u0 : (upd (upd H F (.lst [])) U (.lst [V.int 1])) U = some (ls (tb 1 fun i => (fc i : Int))) := upd_same
    generalize upd (upd H F (.lst [])) U (.lst [V.int 1]) = H0 at s0 f0 u0 ⊢
    clear hU
    refine ⟨_, rfl, _, _, rfl, rfl, 1, (l.length : Int) - 1 + 1, rfl, ⟨by omega, by omega, by omega, by omega⟩, for_range (lo := 1) (n := ((l.length : Int) - 1 + 1 - 1).toNat) (fun i σ H' => ∃ y, σ = [some (.ref a), some (.int ((l.length : Int) - 1)), some (.ref F), some (.ref U), y, none, none] ∧ Same H H' ∧ H' F = some (.lst []) ∧ H' U = some (ls (tb (i + 1) fun i => (fc i : Int)))) ⟨none, rfl, s0, f0, u0⟩ (fun i σ H' hi hP => ?_) (fun σ H' hP => ?_)⟩
    · obtain ⟨y, rfl, sH, fH, uH⟩ := hP
      have f1 := fc_le i (by omega)
      have ix := atI_last (xs := tb (i + 1) fun i => (fc i : Int)) (n := i) (tb_len _ _)
      rw [co_tb, if_pos (by omega)] at ix
      refine ⟨_, rfl, .inl ⟨rfl, _, SqL.of uH⟩, _, rfl, _, rfl, U, _, _, .int (fc i : Nat), rfl, rfl, SqL.of uH, ix, _, rfl, _, _, rfl, rfl, sm_mul (sm_small ?_) (sm_small ?_), U, _, _, rfl, rfl, uH, ?_, some (.int (1 + (i : Nat))), rfl, fun b o e => ?_, ?_, ?_⟩
      · rw [Int.natAbs_natCast]
        exact Nat.le_trans f1 (by decide)
      · exact Nat.le_trans (show (1 + (i : Int)).natAbs ≤ 100 by omega) (by decide)
      · rw [List.length_map, tb_len]
        exact small1000 (by omega)
      · rw [upd_ne (ne_of_none e nU)]
        exact sH _ _ e
      · rw [upd_ne FU]
        exact fH
      · have e : (fc i : Int) * (1 + (i : Int)) = ((fc (i + 1) : Nat) : Int) := by
          show _ = (((i + 1) * fc i : Nat) : Int)
          rw [Int.natCast_mul, Int.mul_comm]
          congr 1
          omega
        rw [upd_same]
        dsimp only []
        rw [e, tbs (i + 1)]
        unfold ls
        rw [List.map_append]
        rfl
    · obtain ⟨y, rfl, sH, fH, uH⟩ := hP
      rw [show ((l.length : Int) - 1 + 1 - 1).toNat + 1 = l.length by omega] at uH
      clear s0 f0 u0
      refine ⟨_, rfl, a, _, rfl, SqT.of (sH _ _ ha), for_enumT (xs := l.map V.int) (fun i σ H2 => ∃ y4 y5 y6, σ = [some (.ref a), some (.int ((l.length : Int) - 1)), some (.ref F), some (.ref U), y4, y5, y6] ∧ Same H H2 ∧ H2 F = some (ls (tb i fun i => (fc i : Int) * (fc (l.length - 1 - i) : Int) * co l i)) ∧ H2 U = some (ls (tb l.length fun i => (fc i : Int)))) ⟨y, none, none, rfl, sH, fH, uH⟩ (fun i σ H2 hP => SqT.of (hP.choose_spec.choose_spec.choose_spec.2.1 _ _ ha)) (fun k x B σ H2 hx hP hB => ?_) (fun σ H2 hP => ?_)⟩
      · obtain ⟨y4, y5, y6, rfl, s2, f2, u2⟩ := hP
        obtain ⟨hk, rfl⟩ := int_get hx
        have f1 := fc_le k (by omega)
        have f3 := fc_le (l.length - 1 - k) (by omega)
        have f5 := fc2_le (l.length - 1) (by omega) k (by omega)
        have BF : F ≠ B := ne_of_none f2 hB
        refine gen_upd H2 B _ hB fun H4 s4 f4 => ⟨B, _, rfl, SqT.of f4, rfl, _, _, rfl, _, _, rfl, rfl, ?_⟩
        have f6 := s4 _ _ f2
        have u6 := s4 _ _ u2
        have ix1 : atI ((tb l.length fun i => (fc i : Int)).map V.int) ((k : Nat) : Int) = some (.int (fc k : Nat)) := by
          have := atI_nat (get_int (xs := tb l.length fun i => (fc i : Int)) (i := k) (by rw [tb_len]; exact hk))
          rw [co_tb, if_pos hk] at this
          exact this
        have ix2 : atI ((tb l.length fun i => (fc i : Int)).map V.int) ((l.length : Int) - 1 - (k : Int)) = some (.int (fc (l.length - 1 - k) : Nat)) := by
          have := atI_nat (get_int (xs := tb l.length fun i => (fc i : Int)) (i := l.length - 1 - k) (by rw [tb_len]; omega))
          rw [co_tb, if_pos (by omega), show ((l.length - 1 - k : Nat) : Int) = (l.length : Int) - 1 - (k : Int) by omega] at this
          exact this
        refine ⟨_, rfl, .inl ⟨rfl, _, SqL.of f6⟩, _, rfl, _, rfl, U, _, _, .int (fc k : Nat), rfl, rfl, SqL.of u6, ix1, _, rfl, _, rfl, _, rfl, _, _, rfl, rfl, U, _, _, .int (fc (l.length - 1 - k) : Nat), rfl, rfl, SqL.of u6, ix2, _, _, rfl, rfl, sm_mul (sm_small ?_) (sm_small ?_), _, rfl, _, _, rfl, rfl, sm_mul (sm_small ?_) (hl.smc k), F, _, _, rfl, rfl, f6, ?_, y4, _, _, rfl, fun b o e => ?_, ?_, ?_⟩
        · rw [Int.natAbs_natCast]
          exact Nat.le_trans f1 (by decide)
        · rw [Int.natAbs_natCast]
          exact Nat.le_trans f3 (by decide)
        · rw [Int.natAbs_mul, Int.natAbs_natCast, Int.natAbs_natCast]
          exact Nat.le_trans f5 (by decide)
        · rw [List.length_map, tb_len]
          exact small1000 (by omega)
        · rw [upd_ne (ne_of_none e hF)]
          exact s4 _ _ (s2 _ _ e)
        · rw [upd_same, tbs]
          unfold ls
          rw [List.map_append]
          rfl
        · rw [upd_ne (Ne.symm FU)]
          exact u6
      · obtain ⟨y4, y5, y6, rfl, s2, f2, u2⟩ := hP
        rw [List.length_map] at f2
        exact ⟨_, rfl, q F H2 s2 f2⟩
theorem ok_law_killer_table (T : Facts K mg) : FnOk P w K mg base CX0 2 T.f_law_killer_table T.fd_law_killer_table ["_law_entries", "_law_degree"] spLevR := by
  have G_law_levels := ok_law_levels (P := P) (w := w) (base := base) T
  refine T.F_law_killer_table.ok sc_law_killer_table (fun vs H Q E h => ?_) (fun cdv A outer s H vs Q E hr h => ?_)
  · obtain ⟨a, l, d, rfl, _⟩ := h
    rfl
  · obtain ⟨a, l, d, rfl, ha, hl, hd, q⟩ := h
    have l1 := hl.l1
    have l8 := hl.l8
    refine ⟨_, (PSs.nox (pss_cons (ps_set (i := 2) sc_law_killer_table.nd rfl (.inr rfl) (pe_call G_law_levels hr (by rfl) T.g_law_levels T.F_law_levels.kp T.b_law_levels .nil pass0 (pa_cons (pv 0) pa_nil)))
    (pss_one (ps_ret (pe_lc (own := [("_law_at", 3)]) (g := (gName 3)) (tt := tYes) (by rfl) sc_law_killer_table.nd (pi_range1 (by rfl) T.z_range (pa_cons (pe_op op_sub (pe_callB call_len_seq (by rfl) T.z_len (by decide +kernel) (pa_cons (pv 0) pa_nil)) (pv 1)) pa_nil)) (blkOk_by (N := N_law_killer_table) (sc := defScope s_law_killer_table) (by decide +kernel)) (fun _ _ _ _ _ => (pg_name (i := 3) sc_law_killer_table.nd rfl (.inl rfl))) (fun _ _ _ _ _ => pts_nil) (fun _ _ _ _ _ => (pe_tupleOf (by rfl) T.z_tuple (pe_slice (sl_list : SlR _ (rSlL K)) (pv 2) (po_some (pv 3)) (po_some (pe_op op_add (pe_op op_add (pv 3) (pv 1)) pe_int))) : PE _ _ (tThen _ (kTup K))))))))), ?_⟩
    refine ⟨_, rfl, a, l, rfl, ha, hl, fun t H1 s1 t1 => ?_⟩
    refine ⟨_, rfl, a, _, rfl, .inr (SqT.of (s1 _ _ ha)), _, rfl, _, _, rfl, rfl, ?_⟩
    rw [List.length_map]
    refine ⟨_, rfl, by omega, by omega, fun D hD => ?_⟩
    refine lc_rangeT (f := lrow l d) hD (by omega) (fun _ => rfl) (fun j H2 Q2 hj s2 kq => ?_) (fun bs H6 s6 d6 r6 => ?_)
    · have t2 := s2 _ _ t1
      refine ⟨_, rfl, _, rfl, (j : Int), rfl, _, rfl, _, rfl, _, _, rfl, rfl, _, _, rfl, rfl, _, rfl, t, _, rfl, SqL.of t2, fun p np => .inl ⟨p, _, rfl, SqL.of upd_same, fun p2 n2 => kq p2 _ (fun b o e => same_upd0 n2 _ _ (same_upd0 np _ _ e)) ?_⟩⟩
      rw [upd_same, cut_lev (by omega)]
    · rw [show ((l.length : Int) - (d : Int)).toNat = l.length - d by omega] at r6
      exact q D bs H6 (s1.trans s6) d6 r6
end
end K65

set_option Elab.async false
set_option linter.all false
set_option maxRecDepth 100000
set_option maxHeartbeats 4000000
set_option exponentiation.threshold 10000
/-! walks: acting -/
namespace K65
open PySem PySem.Spec PyProof.Rows L2 StX RZ MyR SlX OwnR OwnF EnumT GxR GenNx FDivQ LA
/-- the partial sums -/
def actn (one l : List Int) (i : Nat) : List Int := tb (l.length - (one.length - 1)) fun j => S i fun a => co one a * co (dd (one.length - 1 - a) a l) j
theorem tb_zero (n : Nat) : (tb n fun _ => (S 0 fun _ => (0 : Int))) = List.replicate n 0 := by
  unfold tb
  refine List.ext_getElem (by rw [List.length_map, List.length_range, List.length_replicate]) fun i _ _ => ?_
  rw [List.getElem_map, List.getElem_replicate]
  rfl
theorem actn_zero (one l : List Int) : actn one l 0 = List.replicate (l.length - (one.length - 1)) 0 := tb_zero _
theorem actn_len (one l : List Int) (i : Nat) : (actn one l i).length = l.length - (one.length - 1) := tb_len _ _
theorem actn_succ (one l : List Int) (k : Nat) : actn one l (k + 1) = tb (l.length - (one.length - 1)) fun j => co (actn one l k) j + co one k * co (dd (one.length - 1 - k) k l) j := by
  refine co_inj (by rw [actn_len, tb_len]) fun j => ?_
  unfold actn
  rw [co_tb, co_tb]
  split
  · rename_i h
    rw [co_tb, if_pos h]
    rfl
  · rfl
theorem iteN {i : Int} {A B : Prop} (h1 : i ≠ 0 → A) (h2 : i = 0 → B) : if (!decide (V.int i = V.int 0)) = true then A else B := by
  by_cases h : i = 0
  · rw [decide_eq_true (by rw [h])]
    exact iteF (h2 h)
  · rw [decide_eq_false fun e => h (V.int.inj e)]
    exact iteT (h1 h)
structure AcOk (one l : List Int) : Prop where
  l1 : 1 ≤ one.length
  l2 : one.length ≤ l.length
  l3 : l.length ≤ 100
  so : ∀ k, sm (co one k)
  dk : ∀ a, a < one.length → DdOk (one.length - 1 - a) a l
  ds : ∀ a, a < one.length → ∀ k, sm (co (dd (one.length - 1 - a) a l) k)
section
variable {P : Program} {w : World} {K : PySem.W.Frag} {mg : Str → Option Value} {base : Heap} {Ps : List Addr}
def spAct : Sp := fun vs H Q _ => ∃ (a b : Addr) (one l : List Int), vs = [.ref a, .ref b] ∧ H a = some (tp one) ∧ H b = some (tp l) ∧ AcOk one l ∧ ∀ p H', Same H H' → H' p = some (tp (act one l)) → Q (.ref p) H'
theorem ok_killed_in (T : Facts K mg) : FnOk P w K mg base CX0 2 T.f_killed_in T.fd_killed_in ["one", "entries"] spAct := by
  have G_derived_in := ok_derived_in (P := P) (w := w) (base := base) T
  refine T.F_killed_in.ok sc_killed_in (fun vs H Q E h => ?_) (fun cdv A outer s H vs Q E hr h => ?_)
  · obtain ⟨a, b, one, l, rfl, _⟩ := h
    rfl
  · obtain ⟨a, b, one, l, rfl, ha, hb, ok, q⟩ := h
    have l1 := ok.l1
    have l2 := ok.l2
    have l3 := ok.l3
    refine ⟨_, (PSs.nox (pss_cons (ps_set (i := 2) sc_killed_in.nd rfl (.inl rfl) (pe_op op_sub (pe_callB call_len_seq (by rfl) T.z_len (by decide +kernel) (pa_cons (pv 0) pa_nil)) pe_int))
    (pss_cons (ps_set (i := 3) sc_killed_in.nd rfl (.inl rfl) (pe_op op_rep (pe_lst (pa_cons pe_int pa_nil)) (pe_op op_sub (pe_callB call_len_seq (by rfl) T.z_len (by decide +kernel) (pa_cons (pv 1) pa_nil)) (pv 2))))
    (pss_cons (ps_for PassesOwn.never (by rfl) (pi_enumT (by rfl) T.z_enumerate (pa_cons (pv 0) pa_nil)) (pg_tup (by rfl) (pgs_cons (pg_name (i := 4) sc_killed_in.nd rfl (.inl rfl)) (pgs_cons (pg_name (i := 5) sc_killed_in.nd rfl (.inr rfl)) pgs_nil)))
      (pss_one (ps_if (pt_cmpR op_ne (pv 5) pe_int (nomark _))
        (pss_cons (ps_set (i := 6) sc_killed_in.nd rfl (.inl rfl) (pe_call G_derived_in hr (by rfl) T.g_derived_in T.F_derived_in.kp T.b_derived_in .nil pass0 (pa_cons (pv 1) (pa_cons (pe_op op_sub (pv 2) (pv 4)) (pa_cons (pv 4) pa_nil)))))
        (pss_one (ps_setLc (i := 3) (own := [("entry", 7), ("more", 8)]) (g := (gTup K 2 (gCons (gName 7) (gCons (gName 8) gNil)))) (tt := tYes) rfl sc_killed_in.nd rfl rfl (sw_true rfl rfl rfl (by decide +kernel)) (ZipX.pi_zipX (by rfl) T.z_zip (pa_cons (pv 3) (pa_cons (pv 6) pa_nil))) (blkOk_by (N := N_killed_in) (sc := defScope s_killed_in) (by decide +kernel)) (fun _ _ _ _ _ => (pg_tup (by rfl) (pgs_cons (pg_name (i := 7) sc_killed_in.nd rfl (.inl rfl)) (pgs_cons (pg_name (i := 8) sc_killed_in.nd rfl (.inl rfl)) pgs_nil)))) (fun _ _ _ _ _ => pts_nil) (fun _ _ _ _ _ => (pe_op op_add (pv 7) (pe_op op_mulW (pv 5) (pv 8)))))))
        pss_nil)))
    (pss_one (ps_ret (pe_tupleOf (by rfl) T.z_tuple (pv 3)))))))), ?_⟩
    refine ⟨_, rfl, a, _, rfl, .inr (SqT.of ha), _, _, rfl, rfl, ?_⟩
    rw [List.length_map]
    refine ⟨by decide, fun Z hZ => ?_⟩
    refine ⟨_, rfl, b, _, rfl, .inr (SqT.of (same_upd0 hZ _ _ hb)), ?_⟩
    rw [List.length_map]
    refine ⟨_, rfl, _, _, rfl, rfl, Z, (l.length : Int) - ((one.length : Int) - 1), [.int 0], rfl, rfl, upd_same, by omega, by omega, ?_, fun O hO => ?_⟩
    · rw [show ((l.length : Int) - ((one.length : Int) - 1)).toNat = l.length - (one.length - 1) by omega]
      show 1 * _ ≤ sizeLine
      rw [Nat.one_mul]
      exact Nat.le_of_lt (small1000 (by omega))
    have s7 : Same H (upd (upd H Z (.lst [.int 0])) O (.lst (List.replicate ((l.length : Int) - ((one.length : Int) - 1)).toNat [V.int 0]).flatten)) := fun b o e => same_upd0 hO _ _ (same_upd0 hZ _ _ e)
    have o7 : (upd (upd H Z (.lst [.int 0])) O (.lst (List.replicate ((l.length : Int) - ((one.length : Int) - 1)).toNat [V.int 0]).flatten)) O = some (ls (actn one l 0)) := by
      rw [upd_same, show ((l.length : Int) - ((one.length : Int) - 1)).toNat = l.length - (one.length - 1) by omega, List.flatten_replicate_singleton, ls]
      rw [actn_zero, List.map_replicate]
    generalize upd (upd H Z (.lst [.int 0])) O (.lst (List.replicate ((l.length : Int) - ((one.length : Int) - 1)).toNat [V.int 0]).flatten) = H7 at s7 o7 ⊢
    clear hO hZ
    refine ⟨_, rfl, a, _, rfl, SqT.of (s7 _ _ ha), for_enumT (xs := one.map V.int) (fun i σ H2 => ∃ F y4 y5 y6 y7 y8, σ = [some (.ref a), some (.ref b), some (.int ((one.length : Int) - 1)), some (.ref F), y4, y5, y6, y7, y8] ∧ Same H H2 ∧ H2 F = some (ls (actn one l i))) ⟨O, none, none, none, none, none, rfl, s7, o7⟩ (fun i σ H2 hP => by
      obtain ⟨_, _, _, _, _, _, _, sH, _⟩ := hP
      exact SqT.of (sH _ _ ha)) (fun k x B σ H2 hx hP hB => ?_) (fun σ H2 hP => ?_)⟩
    · obtain ⟨F, y4, y5, y6, y7, y8, rfl, s2, f2⟩ := hP
      obtain ⟨hk, rfl⟩ := int_get hx
      refine gen_upd H2 B _ hB fun H4 s4 f4 => ⟨B, _, rfl, SqT.of f4, rfl, _, _, rfl, _, _, rfl, rfl, ?_⟩
      have f5 := s4 _ _ f2
      have s5 := s2.trans s4
      clear s2 s4 f4 hB f2
      have dl : (dd (one.length - 1 - k) k l).length = l.length - (one.length - 1) := by
        rw [dd_len]
        omega
      refine ⟨_, rfl, rfl, _, rfl, iteN (fun c => ?_) (fun c => ?_)⟩
      · refine ⟨_, rfl, _, rfl, _, rfl, _, _, rfl, rfl, _, rfl, b, l, one.length - 1 - k, k, ?_, s5 _ _ hb, ok.dk k hk, fun p H6 s6 p6 => ?_⟩
        · show [V.ref b, V.int ((one.length : Int) - 1 - (k : Int)), V.int (k : Nat)] = _
          rw [show (one.length : Int) - 1 - (k : Int) = ((one.length - 1 - k : Nat) : Int) by omega]
        have f6 := s6 _ _ f5
        have s6 := s5.trans s6
        clear s5 f5
        refine ⟨_, rfl, _, rfl, F, p, _, _, rfl, SqL.of f6, SqT.of p6, fun D hD => ?_⟩
        refine ZipX.lc_zipX (xs := (actn one l k).map V.int) (ys := (dd (one.length - 1 - k) k l).map V.int) (by rw [List.length_map, List.length_map, actn_len, dl]) (fun j H' => Same H6 H' ∧ H' D = some (ls (tb j fun j => co (actn one l k) j + co one k * co (dd (one.length - 1 - k) k l) j))) ⟨same_upd0 hD, upd_same⟩ (fun j H' _ hP => ⟨SqL.of (hP.1 _ _ f6), SqT.of (hP.1 _ _ p6)⟩) (fun j x y Z H' hx hy hP hZ => ?_) (fun H' hP => ?_)
        · obtain ⟨sH, hL⟩ := hP
          obtain ⟨hj, rfl⟩ := int_get hx
          obtain ⟨_, rfl⟩ := int_get hy
          rw [actn_len] at hj
          refine gen_upd H' Z _ hZ fun H8 s8 f8 => ⟨Z, _, rfl, SqT.of f8, rfl, _, _, rfl, _, _, rfl, rfl, rfl, ?_⟩
          refine ⟨_, rfl, _, rfl, _, rfl, _, _, rfl, rfl, sm_mul (ok.so k) (ok.ds k hk j), _, _, rfl, rfl, _, s8 _ _ hL, ?_, fun b o e => ?_, ?_⟩
          · rw [List.length_map, tb_len]
            exact small1000 (by omega)
          · rw [upd_ne (ne_of_none e hD)]
            exact s8 _ _ (sH _ _ e)
          · rw [upd_same, tbs]
            unfold ls
            rw [List.map_append]
            rfl
        · obtain ⟨sH, hL⟩ := hP
          rw [List.length_map, actn_len] at hL
          refine ⟨D, _, _, _, _, _, rfl, s6.trans sH, ?_⟩
          rw [hL]
          congr 2
          exact (actn_succ one l k).symm
      · refine ⟨F, _, _, _, _, _, rfl, s5, ?_⟩
        rw [f5, actn_succ]
        congr 2
        refine co_inj (by rw [actn_len, tb_len]) fun j => ?_
        rw [co_tb, c]
        split
        · rw [Int.zero_mul, Int.add_zero]
        · exact co_far (by rw [actn_len]; omega)
    · obtain ⟨F, y4, y5, y6, y7, y8, rfl, s2, f2⟩ := hP
      rw [List.length_map] at f2
      exact ⟨_, rfl, .inl ⟨F, _, rfl, SqL.of f2, fun p hp => q p _ (fun b o e => same_upd0 hp _ _ (s2 _ _ e)) upd_same⟩⟩
end
end K65

set_option Elab.async false
set_option linter.all false
set_option maxRecDepth 100000
set_option maxHeartbeats 4000000
set_option exponentiation.threshold 10000
/-! walks: killers, and what the tools say of forms -/
namespace K65
open PySem PySem.Spec PyProof.Rows L2 StX RZ MyR SlX OwnR OwnF EnumT GxR GenNx FDivQ LA
/-- whether a form kills another one -/
def dk (one l : List Int) : Bool := decide (l.length < one.length) || !(act one l).any (· != 0)
/-- forms at addresses -/
def FX (C : Addr) (H : Hp) : List Addr → List (List Int) → Prop := RX fun a r => Fo C H a r
theorem FX.same {C : Addr} {H H' : Hp} {as : List Addr} {rs : List (List Int)} (h : FX C H as rs) (s : Same H H') : FX C H' as rs := RX.imp (fun a r e => e.same s) h
theorem Fo.updL {C a D : Addr} {H : Hp} {l : List Int} {xs ys : List V} (h : Fo C H a l) (hD : H D = some (.lst xs)) : Fo C (L2.upd H D (.lst ys)) a l := by
  obtain ⟨dx, t, h1, h2, h3⟩ := h
  refine ⟨dx, t, ?_, ?_, ?_⟩
  · rw [upd_ne fun z => by rw [z, hD] at h1; cases h1]
    exact h1
  · rw [upd_ne fun z => by rw [z, hD] at h2; cases h2]
    exact h2
  · rw [upd_ne fun z => by rw [z, hD] at h3; cases h3]
    exact h3
section
variable {P : Program} {w : World} {K : PySem.W.Frag} {mg : Str → Option Value} {base : Heap} {Ps : List Addr}
def spReqForm (C : Addr) : Sp := fun vs H Q _ => ∃ (a : Addr) (l : List Int), vs = [.ref a] ∧ Fo C H a l ∧ Q .non H
theorem ok_require_form (T : Facts K mg) : FnOk P w K mg base CX0 1 T.f_require_form T.fd_require_form ["value"] (spReqForm T.C_Form) := by
  refine T.F_require_form.ok sc_require_form (fun vs H Q E h => ?_) (fun cdv A outer s H vs Q E hr h => ?_)
  · obtain ⟨a, l, rfl, _⟩ := h
    rfl
  · obtain ⟨a, l, rfl, fa, q⟩ := h
    obtain ⟨dx, t, ha, ht⟩ := fa.slt
    refine ⟨_, (PSs.nox (pss_one (ps_if (pt_not (pt_val (pe_callB (call_isiF T.C_Form) (by rfl) T.z_isinstance (by decide +kernel) (pa_cons (pv 0) (pa_cons (pe_glob (v := .ref T.C_Form) (by rfl) T.g_Form rfl) pa_nil)))))
      (pss_one ps_never)
      pss_nil))), ?_⟩
    exact ⟨_, rfl, isi_form (X := (cxOf CX0 P w K mg base N_require_form (Str.ofString "require_form") (defScope s_require_form) T.f_require_form cdv A outer s H E).nox) T.oc_Form ha ⟨true, rfl, iteF q⟩⟩
def spKills : Sp := fun vs H Q _ => ∃ (a b : Addr) (one l : List Int), vs = [.ref a, .ref b] ∧ H a = some (tp one) ∧ H b = some (tp l) ∧ (one.length ≤ l.length → AcOk one l) ∧ ∀ H', Same H H' → Q (.bl (dk one l)) H'
theorem ok_does_kill_in (T : Facts K mg) : FnOk P w K mg base CX0 3 T.f_does_kill_in T.fd_does_kill_in ["one", "entries"] spKills := by
  have G_killed_in := ok_killed_in (P := P) (w := w) (base := base) T
  have G_is_zero_in : FnOk P w K mg base CX0 1 T.f_is_zero_in T.fd_is_zero_in ["entries"] spZero := ok_is_zero_in T
  refine T.F_does_kill_in.ok sc_does_kill_in (fun vs H Q E h => ?_) (fun cdv A outer s H vs Q E hr h => ?_)
  · obtain ⟨a, b, one, l, rfl, _⟩ := h
    rfl
  · obtain ⟨a, b, one, l, rfl, ha, hb, ok, q⟩ := h
    refine ⟨_, (PSs.nox (pss_one (ps_ret (pe_or (pe_cmpR op_gt (pe_callB call_len_seq (by rfl) T.z_len (by decide +kernel) (pa_cons (pv 0) pa_nil)) (pe_callB call_len_seq (by rfl) T.z_len (by decide +kernel) (pa_cons (pv 1) pa_nil)) (nomark _)) (pe_one (pe_call G_is_zero_in (hr.mono (by decide)) (by rfl) T.g_is_zero_in T.F_is_zero_in.kp T.b_is_zero_in .nil pass0 (pa_cons (pe_call G_killed_in hr (by rfl) T.g_killed_in T.F_killed_in.kp T.b_killed_in .nil pass0 (pa_cons (pv 0) (pa_cons (pv 1) pa_nil))) pa_nil))))))), ?_⟩
    refine ⟨_, rfl, a, _, rfl, .inr (SqT.of ha), _, rfl, b, _, rfl, .inr (SqT.of hb), _, _, rfl, rfl, ?_⟩
    rw [List.length_map, List.length_map]
    by_cases c : l.length < one.length
    · have e := q H (Same.rf H)
      unfold dk at e
      rw [decide_eq_true c, Bool.true_or] at e
      refine ⟨true, ?_, iteT e⟩
      show V.bl (decide ((l.length : Int) < (one.length : Int))) = _
      rw [decide_eq_true (by omega)]
    · refine ⟨false, ?_, iteF ⟨_, rfl, _, rfl, a, b, one, l, rfl, ha, hb, ok (by omega), fun p H1 s1 p1 => ⟨p, _, rfl, p1, ?_⟩⟩⟩
      · show V.bl (decide ((l.length : Int) < (one.length : Int))) = _
        rw [decide_eq_false (by omega)]
      · have e := q H1 s1
        unfold dk at e
        rw [decide_eq_false c, Bool.false_or] at e
        exact e
def spKin (Ps : List Addr) : Sp := fun vs H Q _ => ∃ (a : Addr) (l : List Int) (d : Nat), vs = [.ref a, .int d] ∧ H a = some (tp l) ∧ Lw l ∧ d ≤ l.length ∧ KB (lrows l d) (d + 1) ∧ Tg Ps H ∧ ∀ p bs H', Sts Ps H H' → Tg Ps H' → H' p = some (.lst (bs.map V.ref)) → RT H' bs (kern (lrows l d) (d + 1)) → Q (.ref p) H'
theorem ok_killers_in (T : Facts K mg) (TB_first_of : TabB base mg T.c_first_of T.P_first_of) (hP : T.P_first_of ∈ Ps) : FnOk P w K mg base CX0 5 T.f_killers_in T.fd_killers_in ["entries", "degree"] (spKin Ps) := by
  have G_level_rows := ok_level_rows (P := P) (w := w) (base := base) T
  have G_kernel_rows := ok_kernel_rows (P := P) (w := w) (base := base) T TB_first_of hP
  refine T.F_killers_in.ok sc_killers_in (fun vs H Q E h => ?_) (fun cdv A outer s H vs Q E hr h => ?_)
  · obtain ⟨a, l, d, rfl, _⟩ := h
    rfl
  · obtain ⟨a, l, d, rfl, ha, hl, hd, k, g, q⟩ := h
    have l1 := hl.l1
    have l8 := hl.l8
    refine ⟨_, (PSs.nox (pss_one (ps_ret (pe_lc (own := [("row", 2)]) (g := (gName 2)) (tt := tYes) (by rfl) sc_killers_in.nd (pi_list (pe_call G_kernel_rows hr (by rfl) T.g_kernel_rows T.F_kernel_rows.kp T.b_kernel_rows .nil pass0 (pa_cons (pe_call G_level_rows (hr.mono (by decide)) (by rfl) T.g_level_rows T.F_level_rows.kp T.b_level_rows .nil pass0 (pa_cons (pv 0) (pa_cons (pv 1) pa_nil))) (pa_cons (pe_op op_add (pv 1) pe_int) pa_nil)))) (blkOk_by (N := N_killers_in) (sc := defScope s_killers_in) (by decide +kernel)) (fun _ _ _ _ _ => (pg_name (i := 2) sc_killers_in.nd rfl (.inl rfl))) (fun _ _ _ _ _ => pts_nil) (fun _ _ _ _ _ => (pe_tupleOf (by rfl) T.z_tuple (pv 2) : PE _ _ (tThen _ (kTup K)))))))), ?_⟩
    refine ⟨_, rfl, _, rfl, a, l, d, rfl, ha, hl, hd, fun t as H1 s1 t1 r1 => ?_⟩
    refine ⟨_, rfl, _, _, rfl, rfl, t, as, lrows l d, d + 1, rfl, .inr t1, RX.imp (fun a r e => .inl e) r1, ?_, by omega, ?_, k.e, k.t, k.k, k.e2, g.same s1, fun p bs H2 s2 g2 p2 r2 => ?_⟩
    · unfold lrows
      rw [List.length_map, List.length_range]
      omega
    · intro r hr
      obtain ⟨j, _, rfl⟩ := List.mem_map.mp hr
      exact lrow_len _ _ _
    · have r2 : RR H2 bs (kern (lrows l d) (d + 1)) := r2
      have s3 := (Sts.of s1).trans s2
      have kc := k.cnt
      refine ⟨p, rfl, ⟨_, SqL.of p2⟩, fun D hD => ?_⟩
      refine lc_rowsT (f := fun r => r) hD p2 r2 (by omega) (fun _ => rfl) (fun ad r H4 Q4 hr s4 e4 kq => ?_) (fun cs H6 s6 d6 r6 => ?_)
      · exact ⟨_, rfl, .inl ⟨ad, _, rfl, SqL.of e4, fun p3 n3 => kq p3 _ (same_upd0 n3) upd_same⟩⟩
      · rw [List.map_id'] at r6
        exact q D cs H6 (s3.trans (Sts.of s6)) (g2.same s6) d6 r6
def spDK (C : Addr) : Sp := fun vs H Q _ => ∃ (a b : Addr) (one l : List Int), vs = [.ref a, .ref b] ∧ Fo C H a one ∧ Fo C H b l ∧ (one.length ≤ l.length → AcOk one l) ∧ ∀ H', Same H H' → Q (.bl (dk one l)) H'
theorem ok_does_kill (T : Facts K mg) : FnOk P w K mg base CX0 4 T.f_does_kill T.fd_does_kill ["one", "form"] (spDK T.C_Form) := by
  have G_does_kill_in := ok_does_kill_in (P := P) (w := w) (base := base) T
  have G_require_form := ok_require_form (P := P) (w := w) (base := base) T
  have G_Form_entries : FnOk P w K mg base CX0 1 T.f_Form_entries T.fd_Form_entries ["self"] (spEnt T.C_Form) := ok_Form_entries T
  refine T.F_does_kill.ok sc_does_kill (fun vs H Q E h => ?_) (fun cdv A outer s H vs Q E hr h => ?_)
  · obtain ⟨a, b, one, l, rfl, _⟩ := h
    rfl
  · obtain ⟨a, b, one, l, rfl, fa, fb, ok, q⟩ := h
    refine ⟨_, (PSs.nox (pss_cons (ps_expr (pe_call G_require_form (hr.mono (by decide)) (by rfl) T.g_require_form T.F_require_form.kp T.b_require_form .nil pass0 (pa_cons (pv 0) pa_nil)))
    (pss_cons (ps_expr (pe_call G_require_form (hr.mono (by decide)) (by rfl) T.g_require_form T.F_require_form.kp T.b_require_form .nil pass0 (pa_cons (pv 1) pa_nil)))
    (pss_one (ps_ret (pe_call G_does_kill_in hr (by rfl) T.g_does_kill_in T.F_does_kill_in.kp T.b_does_kill_in .nil pass0 (pa_cons (pe_prp (pv 0) T.oc_Form T.pr_Form_entries G_Form_entries T.b_Form_entries (hr.mono (by decide))) (pa_cons (pe_prp (pv 1) T.oc_Form T.pr_Form_entries G_Form_entries T.b_Form_entries (hr.mono (by decide))) pa_nil)))))))), ?_⟩
    exact ⟨_, rfl, a, one, rfl, fa, _, rfl, b, l, rfl, fb, _, rfl, prop_ent fa fun t ht => ⟨_, rfl, prop_ent fb fun u hu => ⟨t, u, one, l, rfl, ht, hu, ok, q⟩⟩⟩
end
end K65

set_option Elab.async false
set_option linter.all false
set_option maxRecDepth 100000
set_option maxHeartbeats 4000000
namespace K65
open PySem PySem.Spec PyProof.Rows L2 StX RZ MyR SlX OwnR OwnF EnumT GxR
/-! ### dividing rows -/
/-- what is left behind i turns -/
def rmd (xs ys : List Int) : Nat → Nat → Int
  | 0 => co xs
  | i + 1 => fun k => rmd xs ys i k - (if i ≤ k then (rmd xs ys i (i + fi ys)).fdiv (co ys (fi ys)) * co ys (k - i) else 0)
def quo (xs ys : List Int) (i : Nat) : Int := (rmd xs ys i (i + fi ys)).fdiv (co ys (fi ys))
theorem rmd_succ (xs ys : List Int) (i k : Nat) : rmd xs ys (i + 1) k = rmd xs ys i k - (if i ≤ k then quo xs ys i * co ys (k - i) else 0) := rfl
theorem tb_snoc (n : Nat) (f : Nat → Int) : tb (n + 1) f = tb n f ++ [f n] := by
  unfold tb
  rw [List.range_succ, List.map_append]
  rfl
theorem rmd_sum (xs ys : List Int) (k : Nat) : ∀ i, rmd xs ys i k + cv (tb i (quo xs ys)) (co ys) k = co xs k
  | 0 => by
    show co xs k + cv [] _ _ = _
    rw [cv_nil, Int.add_zero]
  | i + 1 => by
    have h := rmd_sum xs ys k i
    rw [tb_snoc, cv_snoc, tb_len, rmd_succ]
    omega
theorem rmd_lead (xs ys : List Int) (i : Nat) : rmd xs ys (i + 1) (i + fi ys) = rmd xs ys i (i + fi ys) - quo xs ys i * co ys (fi ys) := by
  rw [rmd_succ, if_pos (by omega), show i + fi ys - i = fi ys by omega]
/-- how many turns there are -/
def mny (xs ys : List Int) : Nat := xs.length + 1 - ys.length
def GoodTo (xs ys : List Int) (i : Nat) : Prop := ∀ j, j < i → rmd xs ys (j + 1) (j + fi ys) = 0
instance (xs ys : List Int) (i : Nat) : Decidable (GoodTo xs ys i) := by unfold GoodTo; infer_instance
/-- the quotient of rows -/
def qd (xs ys : List Int) : Option (List Int) :=
  if xs.length < ys.length ∨ nzr (xs.take (fi ys)) = true then none
  else if GoodTo xs ys (mny xs ys) ∧ nzr (tb xs.length (rmd xs ys (mny xs ys))) = false then some (tb (mny xs ys) (quo xs ys)) else none
theorem qd_none1 {xs ys : List Int} (h : xs.length < ys.length ∨ nzr (xs.take (fi ys)) = true) : qd xs ys = none := by unfold qd; rw [if_pos h]
theorem qd_bad {xs ys : List Int} {j : Nat} (hj : j < mny xs ys) (h : rmd xs ys (j + 1) (j + fi ys) ≠ 0) : qd xs ys = none := by
  unfold qd
  by_cases h1 : xs.length < ys.length ∨ nzr (xs.take (fi ys)) = true
  · rw [if_pos h1]
  · rw [if_neg h1, if_neg fun g => h (g.1 j hj)]
theorem qd_left {xs ys : List Int} (h : nzr (tb xs.length (rmd xs ys (mny xs ys))) = true) : qd xs ys = none := by
  unfold qd
  by_cases h1 : xs.length < ys.length ∨ nzr (xs.take (fi ys)) = true
  · rw [if_pos h1]
  · rw [if_neg h1, if_neg fun g => by rw [h] at g; cases g.2]
theorem qd_some {xs ys : List Int} (h1 : ¬ (xs.length < ys.length ∨ nzr (xs.take (fi ys)) = true)) (h2 : GoodTo xs ys (mny xs ys)) (h3 : nzr (tb xs.length (rmd xs ys (mny xs ys))) = false) : qd xs ys = some (tb (mny xs ys) (quo xs ys)) := by
  unfold qd
  rw [if_neg h1, if_pos ⟨h2, h3⟩]
theorem qd_of {xs ys q : List Int} (h : qd xs ys = some q) : ys.length ≤ xs.length ∧ GoodTo xs ys (mny xs ys) ∧ nzr (tb xs.length (rmd xs ys (mny xs ys))) = false ∧ q = tb (mny xs ys) (quo xs ys) := by
  unfold qd at h
  by_cases h1 : xs.length < ys.length ∨ nzr (xs.take (fi ys)) = true
  · rw [if_pos h1] at h
    cases h
  · rw [if_neg h1] at h
    by_cases h2 : GoodTo xs ys (mny xs ys) ∧ nzr (tb xs.length (rmd xs ys (mny xs ys))) = false
    · rw [if_pos h2] at h
      exact ⟨Nat.le_of_not_lt fun z => h1 (.inl z), h2.1, h2.2, (Option.some.inj h).symm⟩
    · rw [if_neg h2] at h
      cases h
theorem qd_len {xs ys q : List Int} (h : qd xs ys = some q) : q.length = mny xs ys := by rw [(qd_of h).2.2.2, tb_len]
/-- the quotient's product is the row -/
theorem qd_ml {xs ys q : List Int} (ny : ys ≠ []) (h : qd xs ys = some q) : ml q ys = xs := by
  obtain ⟨h1, _, h3, rfl⟩ := qd_of h
  have ly := List.length_pos_iff.mpr ny
  have el : (ml (tb (mny xs ys) (quo xs ys)) ys).length = xs.length := by
    rw [ml_len, tb_len]
    unfold mny
    omega
  refine co_inj el fun k => ?_
  by_cases hk : k < xs.length
  · rw [co_ml ny]
    have h0 := nzr_co h3 k
    rw [co_tb, if_pos hk] at h0
    have := rmd_sum xs ys k (mny xs ys)
    omega
  · rw [co_far (by omega), co_far (by omega)]
theorem nzr_tb0 {n : Nat} {f : Nat → Int} (h : ∀ k, f k = 0) : nzr (tb n f) = false := by
  cases e : nzr (tb n f) with
  | false => rfl
  | true =>
    obtain ⟨k, hk, hz⟩ := nzr_iff.mp e
    rw [co_tb, h] at hz
    split at hz <;> exact absurd rfl hz
theorem rmd_bd {xs ys : List Int} {M B : Nat} (hx : ∀ z ∈ xs, z.natAbs ≤ M) (hy : ∀ z ∈ ys, z.natAbs ≤ B) : ∀ i k, (rmd xs ys i k).natAbs ≤ M * (1 + B) ^ i
  | 0, k => by
    rw [Nat.pow_zero, Nat.mul_one]
    show (co xs k).natAbs ≤ M
    rcases co_mem (l := xs) (k := k) with e | e
    · rw [e]; exact Nat.zero_le _
    · exact hx _ e
  | i + 1, k => by
    have h1 := rmd_bd hx hy i k
    have h2 := Nat.le_trans (Int.natAbs_fdiv_le_natAbs (rmd xs ys i (i + fi ys)) (co ys (fi ys))) (rmd_bd hx hy i (i + fi ys))
    have h3 : (co ys (k - i)).natAbs ≤ B := by
      rcases co_mem (l := ys) (k := k - i) with e | e
      · rw [e]; exact Nat.zero_le _
      · exact hy _ e
    rw [rmd_succ, Nat.pow_succ, ← Nat.mul_assoc, Nat.mul_add, Nat.mul_one]
    refine Nat.le_trans (Int.natAbs_sub_le _ _) (Nat.add_le_add h1 ?_)
    split
    · rw [Int.natAbs_mul]
      exact Nat.mul_le_mul h2 h3
    · exact Nat.zero_le _
theorem quo_bd {xs ys : List Int} {M B : Nat} (hx : ∀ z ∈ xs, z.natAbs ≤ M) (hy : ∀ z ∈ ys, z.natAbs ≤ B) (i : Nat) : (quo xs ys i).natAbs ≤ M * (1 + B) ^ i :=
  Nat.le_trans (Int.natAbs_fdiv_le_natAbs _ _) (rmd_bd hx hy i _)
/-- what is asked for dividing -/
structure QdOk (xs ys : List Int) : Prop where
  nz : nzr ys = true
  nx : xs ≠ []
  lx : xs.length ≤ 100
  ly : ys.length ≤ 100
  ex : ∃ M B : Nat, (∀ z ∈ xs, z.natAbs ≤ M) ∧ (∀ z ∈ ys, z.natAbs ≤ B) ∧ B < 2 ^ 4000 ∧ M * (1 + B) ^ (mny xs ys) < 2 ^ 4000
theorem QdOk.sy {xs ys : List Int} (h : QdOk xs ys) : ∀ z ∈ ys, sm z := by
  obtain ⟨M, B, h1, h2, h3, h4⟩ := h.ex
  exact fun z hz => Nat.lt_of_le_of_lt (h2 z hz) h3
theorem QdOk.sr {xs ys : List Int} (h : QdOk xs ys) {i : Nat} (hi : i ≤ mny xs ys) (k : Nat) : sm (rmd xs ys i k) := by
  obtain ⟨M, B, h1, h2, h3, h4⟩ := h.ex
  exact Nat.lt_of_le_of_lt (rmd_bd h1 h2 i k) (Nat.lt_of_le_of_lt (Nat.mul_le_mul_left M (Nat.pow_le_pow_right (by omega) hi)) h4)
theorem QdOk.sq {xs ys : List Int} (h : QdOk xs ys) {i : Nat} (hi : i ≤ mny xs ys) : sm (quo xs ys i) := sm_of_le (h.sr hi (i + fi ys)) (Int.natAbs_fdiv_le_natAbs _ _)
theorem QdOk.ny {xs ys : List Int} (h : QdOk xs ys) : ys ≠ [] := fun e => by
  have := h.nz
  rw [e] at this
  cases this
theorem QdOk.lead {xs ys : List Int} (h : QdOk xs ys) : co ys (fi ys) ≠ 0 := fi_ne h.nz
end K65

set_option Elab.async false
set_option linter.all false
set_option maxRecDepth 100000
set_option maxHeartbeats 4000000
namespace K65
open PySem PySem.Spec PyProof.Rows L2 StX RZ MyR SlX OwnR OwnF EnumT GxR
/-- the first entry other than 0, or 0 -/
def fo (l : List Int) : Int := if nzr l = true then co l (fi l) else 0
/-- a row, or none -/
def OV (H : Hp) (v : V) : Option (List Int) → Prop
  | none => v = .non
  | some q => ∃ t, v = .ref t ∧ H t = some (tp q)
theorem OV.same {H H' : Hp} {v : V} {r : Option (List Int)} (h : OV H v r) (s : Same H H') : OV H' v r := by
  cases r with
  | none => exact h
  | some q =>
    obtain ⟨t, e, k⟩ := h
    exact ⟨t, e, s _ _ k⟩
theorem OV.sts {Ps : List Addr} {H H' : Hp} {v : V} {r : Option (List Int)} (h : OV H v r) (s : Sts Ps H H') (g : Tg Ps H) : OV H' v r := by
  cases r with
  | none => exact h
  | some q =>
    obtain ⟨t, e, k⟩ := h
    exact ⟨t, e, s.tup g k⟩
/-- points -/
structure Pt (u v : Int) : Prop where
  cop : Nat.gcd u.natAbs v.natAbs = 1
  pos : 0 < fo [u, v]
theorem Pt.ne {u v : Int} (h : Pt u v) : [u, v] ≠ [0, 0] := fun e => by
  have h1 := h.cop
  cases e
  cases h1
section
variable {P : Program} {w : World} {K : PySem.W.Frag} {mg : Str → Option Value} {base : Heap} {Ps : List Addr}
def spFirstIx (Ps : List Addr) : Sp := fun vs H Q _ => ∃ (t : Addr) (l : List Int), vs = [.ref t] ∧ H t = some (tp l) ∧ Tg Ps H ∧ ∀ H', Sts Ps H H' → Tg Ps H' → Q (.int (if nzr l = true then (fi l : Int) else 0)) H'
theorem ok_first_index (T : Facts K mg) (TB_first_index : TabB base mg T.c_first_index T.P_first_index) (hP : T.P_first_index ∈ Ps) : FnOk P w K mg base CX0 1 T.f_first_index T.fd_first_index ["entries"] (spFirstIx Ps) := by
  refine HookT.okC T.F_first_index sc_first_index (fun vs H Q E h => ?_) (fun A outer s H vs Q E hr h => ?_)
  · obtain ⟨t, l, rfl, _⟩ := h
    rfl
  · obtain ⟨t, l, rfl, ht, hG, q⟩ := h
    refine ⟨_, (PSs.nox (pss_one (ps_ret (GenNx.pe_nextE hr (by rfl) T.z_next TB_first_index T.code_first_index (GenNx.GenS2.of rfl rfl (by decide +kernel) rfl rfl rfl (by decide)) (by rfl) T.z_enumerate (pa_cons (pv 0) pa_nil) (GenNx.test_ne0 rfl rfl))))), ?_⟩
    refine ⟨_, rfl, t, l, rfl, SqT.of ht, hG _ hP, fun r H2 hr2 hT => ?_⟩
    have q2 := q H2 (tbd_sts hT hP) (tbd_tg hT hG)
    rcases hr2 with ⟨h1, rfl⟩ | ⟨i, z, h1, h2, h3, rfl⟩
    · rw [nzr_no h1] at q2
      exact q2
    · rw [nzr_of h1 h2, if_pos rfl, fi_first h1 h2 h3] at q2
      exact q2
def spQuot (Ps : List Addr) : Sp := fun vs H Q _ => ∃ (t u : Addr) (xs ys : List Int), vs = [.ref t, .ref u] ∧ H t = some (tp xs) ∧ H u = some (tp ys) ∧ QdOk xs ys ∧ Tg Ps H ∧ ∀ v H', Sts Ps H H' → Tg Ps H' → OV H' v (qd xs ys) → Q v H'
theorem ok_quotient_in (T : Facts K mg) (TB_first_index : TabB base mg T.c_first_index T.P_first_index) (hP : T.P_first_index ∈ Ps) : FnOk P w K mg base CX0 2 T.f_quotient_in T.fd_quotient_in ["one", "other"] (spQuot Ps) := by
  have G_first_index := ok_first_index (P := P) (w := w) (base := base) T TB_first_index hP
  refine T.F_quotient_in.ok sc_quotient_in (fun vs H Q E h => ?_) (fun cdv A outer s H vs Q E hr h => ?_)
  · obtain ⟨t, u, xs, ys, rfl, _⟩ := h
    rfl
  · obtain ⟨t, u, xs, ys, rfl, ht, hu, ok, hG, q⟩ := h
    refine ⟨_, (PSs.nox (pss_cons (ps_par (i := 2) (j := 3) (by rfl) sc_quotient_in.nd rfl rfl (by decide) rfl rfl (pa_cons (pe_op op_add (pe_op op_sub (pe_callB call_len_seq (by rfl) T.z_len (by decide +kernel) (pa_cons (pv 0) pa_nil)) (pe_callB call_len_seq (by rfl) T.z_len (by decide +kernel) (pa_cons (pv 1) pa_nil))) pe_int) (pa_cons (pe_call G_first_index hr (by rfl) T.g_first_index T.F_first_index.kp T.b_first_index .nil pass0 (pa_cons (pv 1) pa_nil)) pa_nil)) (by rfl))
    (pss_cons (ps_if (pw_or (pt_cmpR op_lt (pv 2) pe_int (nomark _)) (pw_or1 (pt_val (pe_callB (cr_anyTI (by rfl)) (by rfl) T.z_any (by decide +kernel) (pa_cons (pe_slice sl_tupA (pv 0) po_none (po_some (pv 3))) pa_nil))))).pt
      (pss_one (ps_ret pe_non))
      pss_nil)
    (pss_cons (ps_par (i := 4) (j := 5) (by rfl) sc_quotient_in.nd rfl rfl (by decide) rfl rfl (pa_cons (pe_callTy call_list_of (by rfl) T.z_list (by decide +kernel) (pa_cons (pv 0) pa_nil)) (pa_cons (pe_lst pa_nil) pa_nil)) (by rfl))
    (pss_cons (ps_for PassesOwn.never (by rfl) (pi_range1 (by rfl) T.z_range (pa_cons (pv 2) pa_nil)) (pg_name (i := 6) sc_quotient_in.nd rfl (.inl rfl))
      (pss_cons (ps_set (i := 7) sc_quotient_in.nd rfl (.inl rfl) (pe_op op_fdivZ (pe_ix ix_list (pv 4) (pe_op op_add (pv 6) (pv 3)) (fun _ _ => rfl)) (pe_ix ix_tup (pv 1) (pv 3) (fun _ _ => rfl))))
      (pss_cons (ps_for PassesOwn.never (by rfl) (pi_enumT (by rfl) T.z_enumerate (pa_cons (pv 1) pa_nil)) (pg_tup (by rfl) (pgs_cons (pg_name (i := 8) sc_quotient_in.nd rfl (.inl rfl)) (pgs_cons (pg_name (i := 9) sc_quotient_in.nd rfl (.inl rfl)) pgs_nil)))
        (pss_one (ps_augS (pv 4) (pe_op op_add (pv 6) (pv 8)) OwnC.get_list (pe_op op_mulW (pv 7) (pv 9)) ip_sub set_list)))
      (pss_cons (ps_if (pt_cmpR op_ne (pe_ix ix_list (pv 4) (pe_op op_add (pv 6) (pv 3)) (fun _ _ => rfl)) pe_int (nomark _))
        (pss_one (ps_ret pe_non))
        pss_nil)
      (pss_one (ps_expr (pe_bm PySem.F.plainAttrs_list PySem.F.slot_list_append PySem.F.type_list_append mt_append (pv 5) (pa_cons (pv 7) pa_nil))))))))
    (pss_one (ps_ret (pe_ifExp (pt_val (pe_callB (cr_anyLI (by rfl)) (by rfl) T.z_any (by decide +kernel) (pa_cons (pv 4) pa_nil))) pe_non (pe_tupleOf (by rfl) T.z_tuple (pv 5)))))))))), ?_⟩
    refine ⟨_, rfl, t, _, rfl, .inr (SqT.of ht), _, rfl, u, _, rfl, .inr (SqT.of hu), _, _, rfl, rfl, _, _, rfl, rfl, _, rfl, u, ys, rfl, hu, hG, fun H1 s1 g1 => ⟨_, _, rfl, ?_⟩⟩
    have ht1 := s1.tup hG ht
    have hu1 := s1.tup hG hu
    have lx := ok.lx
    have ly := ok.ly
    have lead := fi_lt ok.nz
    have lxp := List.length_pos_iff.mpr ok.nx
    by_cases c : (xs.length : Int) - (ys.length : Int) + 1 < 1
    · refine st_norm [some (.ref t), some (.ref u), some (.int ((xs.length : Int) - (ys.length : Int) + 1)), some (.int ((fi ys : Nat) : Int)), none, none, none, none, none, none] ?_ ?_
      · rw [ok.nz, if_pos rfl, List.length_map, List.length_map]
        rfl
      refine ⟨_, rfl, _, _, rfl, rfl, _, rfl, ?_⟩
      rw [decide_eq_true c]
      exact iteT (q _ H1 s1 g1 (by rw [qd_none1 (.inl (by omega))]; rfl))
    have hm : ys.length ≤ xs.length := by omega
    obtain ⟨m, em⟩ : ∃ m, m = mny xs ys := ⟨_, rfl⟩
    have em2 : m = xs.length + 1 - ys.length := em
    refine st_norm [some (.ref t), some (.ref u), some (.int (m : Int)), some (.int ((fi ys : Nat) : Int)), none, none, none, none, none, none] ?_ ?_
    · rw [ok.nz, if_pos rfl, List.length_map, List.length_map, show (m : Int) = (xs.length : Int) - (ys.length : Int) + 1 by omega]
      rfl
    refine ⟨_, rfl, _, _, rfl, rfl, _, rfl, ?_⟩
    rw [decide_eq_false (by omega)]
    refine iteF ⟨_, rfl, _, rfl, _, rfl, take_row (i := fi ys) ht1 (by omega) rfl fun p2 H2 s2 k2 => ?_⟩
    refine ⟨p2, _, rfl, SqT.of k2, ?_⟩
    have sx := s1.trans (Sts.of s2)
    cases hz : nzr (xs.take (fi ys)) with
    | true =>
      rw [show (xs.take (fi ys)).any (· != 0) = true from hz]
      exact ⟨_, rfl, iteT (q _ H2 sx (g1.same s2) (by rw [qd_none1 (.inr hz)]; rfl))⟩
    | false =>
    rw [show (xs.take (fi ys)).any (· != 0) = false from hz]
    have ht2 := s2 _ _ ht1
    have hu2 := s2 _ _ hu1
    have g2 := g1.same s2
    refine ⟨_, rfl, iteF ⟨_, rfl, t, _, rfl, .inr (SqT.of ht2), fun L nL => ⟨by show 0 ≤ sizeLine; exact Nat.zero_le _, fun F nF => ⟨_, _, rfl, ?_⟩⟩⟩⟩
    have nLF : F ≠ L := fun z => by rw [z, upd_same] at nF; cases nF
    have nF2 : H2 F = none := by rw [upd_ne nLF] at nF; exact nF
    have hx : xs.map V.int = tab xs.length (rmd xs ys 0) := by
      rw [tab_tb]
      congr 1
      exact (tb_co xs).symm
    have sm0 := ok.sy
    refine ⟨_, rfl, m, rfl, by omega, by omega, for_range (n := (m : Int).toNat) (fun i σ H' => ∃ y6 y7 y8 y9, σ = [some (.ref t), some (.ref u), some (.int (m : Int)), some (.int ((fi ys : Nat) : Int)), some (.ref L), some (.ref F), y6, y7, y8, y9] ∧ Same H2 H' ∧ H' L = some (.lst (tab xs.length (rmd xs ys i))) ∧ H' F = some (.lst (tab i (quo xs ys))) ∧ GoodTo xs ys i) ⟨none, none, none, none, rfl, (same_upd0 nL).trans (same_upd0 nF), ?_, ?_, fun j hj => by omega⟩ (fun i σ H3 hi hP => ?_) (fun σ H3 hP => ?_)⟩
    · rw [upd_ne (Ne.symm nLF), upd_same, hx]
    · rw [upd_same]
      rfl
    · obtain ⟨y6, y7, y8, y9, rfl, s3, hL, hF, gd⟩ := hP
      have hi : i < m := by omega
      have hu3 := s3 _ _ hu2
      have iLE : i + fi ys < xs.length := by omega
      have dl : CDivZ (rmd xs ys i (i + fi ys)) (co ys (fi ys)) := ⟨ok.lead, Nat.lt_trans (PySem.Flt.log2_lt_of (k := 4000) (by decide) (sm_co sm0 lead)) (by decide)⟩
      refine ⟨_, rfl, _, rfl, _, rfl, _, _, rfl, rfl, L, _, _, _, rfl, rfl, SqL.of hL, at_of (j := i + fi ys) (by omega) (tab_get iLE), _, rfl, _, rfl, u, _, _, _, rfl, rfl, SqT.of hu3, at_of rfl (get_int lead), _, _, rfl, rfl, dl, ?_⟩
      refine ⟨_, rfl, u, _, rfl, SqT.of hu3, for_enumT (xs := ys.map V.int) (fun j σ H' => ∃ y8 y9, σ = [some (.ref t), some (.ref u), some (.int (m : Int)), some (.int ((fi ys : Nat) : Int)), some (.ref L), some (.ref F), some (.int (0 + (i : Int))), some (.int (quo xs ys i)), y8, y9] ∧ Same H2 H' ∧ H' L = some (.lst (tab xs.length fun k => rmd xs ys i k - (if i ≤ k ∧ k < i + j then quo xs ys i * co ys (k - i) else 0))) ∧ H' F = some (.lst (tab i (quo xs ys)))) ⟨y8, y9, rfl, s3, ?_, hF⟩ (fun j σ H' hP => ?_) (fun j x B σ H4 hxj hP hB => ?_) (fun σ H4 hP => ?_)⟩
      · rw [hL]
        congr 2
        refine tab_ext fun k hk => ?_
        rw [if_neg (by omega), Int.sub_zero]
      · obtain ⟨y8, y9, _, s4, _⟩ := hP
        exact SqT.of (s4 _ _ hu2)
      · obtain ⟨y8, y9, rfl, s4, hL4, hF4⟩ := hP
        obtain ⟨hj, rfl⟩ := int_get hxj
        refine ⟨B, _, rfl, SqT.of upd_same, rfl, _, _, rfl, _, _, rfl, rfl, ?_⟩
        refine gen_upd H4 B _ hB (fun H5 s5 _ => ?_)
        have hL5 := s5 _ _ hL4
        have hF5 := s5 _ _ hF4
        have sq := ok.sq (i := i) (by omega)
        refine ⟨_, rfl, _, rfl, _, rfl, _, _, rfl, rfl, L, _, i + j, _, rfl, by show V.int ((0 : Int) + (i : Int) + (j : Int)) = _; congr 1; omega, SqL.of hL5, tab_get (by omega), ?_⟩
        refine ⟨_, rfl, _, rfl, _, _, rfl, rfl, sm_mul sq (sm_co sm0 hj), _, _, rfl, rfl, L, _, _, (i + j), rfl, rfl, hL5, ?_, ?_⟩
        · rw [tab_len]
          exact ix_at (by omega) (by omega)
        · refine ⟨_, _, rfl, fun b o e => ?_, ?_, ?_⟩
          · rw [upd_ne (ne_of_none e nL)]
            exact s5 _ _ (s4 _ _ e)
          · rw [upd_same]
            show some (HO.lst ((tab xs.length fun k => rmd xs ys i k - if i ≤ k ∧ k < i + j then quo xs ys i * co ys (k - i) else 0).set (i + j) (.int ((rmd xs ys i (i + j) - if i ≤ i + j ∧ i + j < i + j then quo xs ys i * co ys (i + j - i) else 0) - quo xs ys i * co ys j)))) = _
            rw [tab_set]
            congr 2
            refine tab_ext fun k hk => ?_
            by_cases z : k = i + j
            · subst z
              rw [if_pos rfl, if_neg (by omega), if_pos ⟨by omega, by omega⟩, show i + j - i = j by omega, Int.sub_zero]
            · rw [if_neg z]
              by_cases z2 : i ≤ k ∧ k < i + j
              · rw [if_pos z2, if_pos ⟨z2.1, by omega⟩]
              · rw [if_neg z2, if_neg (fun z3 => z2 ⟨z3.1, by omega⟩)]
          · rw [upd_ne nLF]
            exact hF5
      · obtain ⟨y8, y9, rfl, s4, hL4, hF4⟩ := hP
        rw [List.length_map, tab_ext (g := rmd xs ys (i + 1)) fun k hk => by
          rw [rmd_succ]
          by_cases z : i ≤ k
          · rw [if_pos z]
            by_cases z2 : k < i + ys.length
            · rw [if_pos ⟨z, z2⟩]
            · rw [if_neg (fun z3 => z2 z3.2), co_far (l := ys) (by omega), Int.mul_zero]
          · rw [if_neg z, if_neg (fun z3 => z z3.1)]] at hL4
        refine ⟨_, rfl, _, rfl, _, rfl, _, _, rfl, rfl, L, _, _, _, rfl, rfl, SqL.of hL4, at_of (j := i + fi ys) (by omega) (tab_get iLE), rfl, _, rfl, ?_⟩
        have sH := sx.trans (Sts.of s4)
        have g4 := g2.same s4
        by_cases c0 : rmd xs ys (i + 1) (i + fi ys) = 0
        · rw [c0]
          refine iteF ⟨_, rfl, .inl ⟨rfl, _, SqL.of hF4⟩, _, rfl, F, _, _, rfl, rfl, hF4, small1000 (by rw [tab_len]; omega), gen_app H4 F _ fun H5 e5 n5 => ?_⟩
          refine ⟨_, _, _, _, rfl, fun b o e => ?_, ?_, ?_, fun j hj => ?_⟩
          · rw [n5 _ (ne_of_none e nF2)]
            exact s4 _ _ e
          · rw [n5 _ (Ne.symm nLF)]
            exact hL4
          · rw [e5, tab_snoc]
          · by_cases e : j = i
            · rw [e]
              exact c0
            · exact gd j (by omega)
        · rw [decide_eq_false (fun e => c0 (V.int.inj e))]
          exact iteT (q _ H4 sH g4 (by rw [qd_bad (by omega) c0]; rfl))
    · obtain ⟨y6, y7, y8, y9, rfl, s3, hL, hF, gd⟩ := hP
      have em3 : (m : Int).toNat = m := by omega
      rw [em3] at hL hF gd
      rw [em] at hL hF gd
      have lL : SqL K H3 L ((tb xs.length (rmd xs ys (mny xs ys))).map V.int) := SqL.of (by rw [hL, tab_tb])
      have sH := sx.trans (Sts.of s3)
      have g3 := g2.same s3
      refine ⟨_, rfl, L, _, rfl, lL, ?_⟩
      cases hr : nzr (tb xs.length (rmd xs ys (mny xs ys))) with
      | true =>
        rw [show (tb xs.length (rmd xs ys (mny xs ys))).any (· != 0) = true from hr]
        exact ⟨_, rfl, iteT (q _ H3 sH g3 (by rw [qd_left hr]; rfl))⟩
      | false =>
        rw [show (tb xs.length (rmd xs ys (mny xs ys))).any (· != 0) = false from hr]
        rw [qd_some (fun z => z.elim (fun w => by omega) fun w => by rw [hz] at w; cases w) gd hr] at q
        have lF : SqL K H3 F ((tb (mny xs ys) (quo xs ys)).map V.int) := SqL.of (by rw [hF, tab_tb])
        exact ⟨_, rfl, iteF ⟨_, rfl, .inl ⟨F, _, rfl, lF, fun p n => q _ _ (sH.trans (Sts.of (same_upd0 n))) (g3.same (same_upd0 n)) ⟨p, rfl, upd_same⟩⟩⟩⟩
end
end K65

set_option Elab.async false
set_option linter.all false
set_option maxRecDepth 100000
set_option maxHeartbeats 4000000
namespace K65
open PySem PySem.Spec PyProof.Rows L2 StX RZ MyR SlX OwnR OwnF EnumT GxR
structure TmOk (xs ys : List Int) : Prop where
  nz : nzr ys = true
  nx : xs ≠ []
  ly : ys.length = 2
  ex : ∃ n M B : Nat, n ≤ 100 ∧ xs.length ≤ n ∧ (∀ z ∈ xs, z.natAbs ≤ M) ∧ (∀ z ∈ ys, z.natAbs ≤ B) ∧ B < 2 ^ 4000 ∧ M * ((1 + B) ^ n) ^ xs.length < 2 ^ 4000
theorem TmOk.qk {xs ys : List Int} (h : TmOk xs ys) : QdOk xs ys := by
  obtain ⟨n, M, B, h1, h2, h3, h4, h5, h6⟩ := h.ex
  have ly := h.ly
  refine ⟨h.nz, h.nx, by omega, by omega, M, B, h3, h4, h5, Nat.lt_of_le_of_lt (Nat.mul_le_mul_left M ?_) h6⟩
  have e : mny xs ys ≤ n := by unfold mny; omega
  refine Nat.le_trans (Nat.pow_le_pow_right (by omega) e) ?_
  have lp := List.length_pos_iff.mpr h.nx
  have := Nat.pow_le_pow_right (n := (1 + B) ^ n) (Nat.pow_pos (by omega)) lp
  rw [Nat.pow_one] at this
  exact this
theorem TmOk.next {xs ys q : List Int} (h : TmOk xs ys) (e : qd xs ys = some q) : TmOk q ys := by
  obtain ⟨n, M, B, h1, h2, h3, h4, h5, h6⟩ := h.ex
  have ly := h.ly
  obtain ⟨g1, _, _, g4⟩ := qd_of e
  have g2 : q.length = xs.length + 1 - ys.length := qd_len e
  have e1 : xs.length = q.length + 1 := by omega
  refine ⟨h.nz, fun z => ?_, ly, n, M * (1 + B) ^ n, B, h1, by omega, fun z hz => ?_, h4, h5, ?_⟩
  · rw [z] at g2
    have : 0 = xs.length + 1 - ys.length := g2
    omega
  · rw [g4] at hz
    obtain ⟨i, hi, rfl⟩ := List.mem_map.mp hz
    have hi := List.mem_range.mp hi
    have hi2 : i < xs.length + 1 - ys.length := hi
    exact Nat.le_trans (quo_bd h3 h4 i) (Nat.mul_le_mul_left M (Nat.pow_le_pow_right (by omega) (by omega)))
  · rw [Nat.mul_assoc, Nat.mul_comm ((1 + B) ^ n), ← Nat.pow_succ, Nat.succ_eq_add_one, ← e1]
    exact h6
section
variable {P : Program} {w : World} {K : PySem.W.Frag} {mg : Str → Option Value} {base : Heap} {Ps : List Addr}
end
end K65

set_option Elab.async false
set_option linter.all false
set_option maxRecDepth 100000
set_option maxHeartbeats 4000000
namespace K65
open PySem PySem.Spec PyProof.Rows L2 StX RZ MyR SlX OwnR OwnF EnumT GxR
theorem nzr_ml {l m : List Int} (nl : nzr l = true) (nm : nzr m = true) : nzr (ml l m) = true := by
  have hl : l ≠ [] := fun e => by rw [e] at nl; cases nl
  have hm : m ≠ [] := fun e => by rw [e] at nm; cases nm
  cases e : nzr (ml l m) with
  | true => rfl
  | false =>
    have h := (cont_nzr _).mpr e
    rw [cont_ml hl hm] at h
    rcases Nat.mul_eq_zero.mp h with z | z
    · rw [(cont_nzr _).mp z] at nl
      cases nl
    · rw [(cont_nzr _).mp z] at nm
      cases nm
section
variable {P : Program} {w : World} {K : PySem.W.Frag} {mg : Str → Option Value} {base : Heap}
end
end K65

set_option Elab.async false
set_option linter.all false
set_option maxRecDepth 100000
set_option maxHeartbeats 4000000
namespace K65
open PySem PySem.Spec PyProof.Rows L2 StX RZ MyR SlX OwnR OwnF EnumT GxR
theorem bd_small_pow {n : Nat} (h : n ≤ 8) : Bd (pow [1, 1] n) n (100000000000000) := (bd_pow (l := [1, 1]) (b := 2) ⟨rfl, by decide⟩ n).mono (Nat.le_trans (Nat.pow_le_pow_right (n := 2) (by decide) h) (by decide))
theorem nzr_pow {l : List Int} (h : nzr l = true) : ∀ n, nzr (pow l n) = true
  | 0 => rfl
  | n + 1 => nzr_ml (nzr_pow h n) h
section
variable {P : Program} {w : World} {K : PySem.W.Frag} {mg : Str → Option Value} {base : Heap} {Ps : List Addr}
def spLive : Sp := fun vs H Q _ => ∃ (d : Addr) (n : Nat), vs = [.ref d, .int n] ∧ Dc H d ∧ n ≤ 8 ∧ ∀ p H' l, Sx d H H' → Dc H' d → H' p = some (tp l) → Bd l n (100000000000000) → nzr l = true → Q (.ref p) H'
theorem ok_law_live_form (T : Facts K mg) : FnOk P w K mg base CX0 6 T.f_law_live_form T.fd_law_live_form ["_law_dice_here", "_law_degree"] spLive := by
  have G_law_form := ok_law_form (P := P) (w := w) (base := base) T
  have G_law_shared := ok_law_shared (P := P) (w := w) (base := base) T
  have G_law_power := ok_law_power (P := P) (w := w) (base := base) T
  refine T.F_law_live_form.ok sc_law_live_form (fun vs H Q E h => ?_) (fun cdv A outer s H vs Q E hr h => ?_)
  · obtain ⟨d, n, rfl, _⟩ := h
    rfl
  · obtain ⟨d, n, rfl, hd, hn, q⟩ := h
    refine ⟨_, (PSs.nox (pss_cons (ps_set (i := 2) sc_law_live_form.nd rfl (.inl rfl) (pe_call G_law_form hr (by rfl) T.g_law_form T.F_law_form.kp T.b_law_form .nil pass0 (pa_cons (pv 0) (pa_cons (pv 1) pa_nil))))
    (pss_one (ps_ret (pe_ifExp (pt_cmpR op_gt (pe_call G_law_shared (hr.mono (by decide)) (by rfl) T.g_law_shared T.F_law_shared.kp T.b_law_shared .nil pass0 (pa_cons (pv 2) pa_nil)) pe_int (nomark _)) (pv 2) (pe_call G_law_power (hr.mono (by decide)) (by rfl) T.g_law_power T.F_law_power.kp T.b_law_power .nil pass0 (pa_cons (pe_tup (pa_cons pe_int (pa_cons pe_int pa_nil))) (pa_cons (pv 1) pa_nil)))))))), ?_⟩
    refine ⟨_, rfl, _, rfl, d, n, rfl, hd, by omega, fun p H1 l s1 d1 hp bl => ⟨_, rfl, p, l, rfl, hp, _, _, rfl, rfl, _, rfl, ?_⟩⟩
    cases hz : nzr l with
    | true =>
      rw [decide_eq_true (show (0 : Int) < (cont l : Nat) from by
        have : cont l ≠ 0 := fun e => by
          have := (cont_nzr l).mp e
          rw [hz] at this
          cases this
        omega)]
      exact iteT ⟨_, rfl, q p H1 l s1 d1 hp (bl.mono (by decide)) hz⟩
    | false =>
      rw [decide_eq_false (show ¬ (0 : Int) < (cont l : Nat) from by
        rw [(cont_nzr l).mpr hz]
        omega)]
      have b11 : ∀ i, i ≤ 8 → Bd (pow [1, 1] i) i (100000000000000) := fun i hi => bd_small_pow hi
      refine iteF ⟨by show 2 ≤ sizeLine; decide, fun p2 n2 => gen_upd H1 p2 (tp [1, 1]) n2 fun H2 s2 k2 => ⟨_, rfl, p2, [1, 1], n, rfl, k2, by simp, by show 2 ≤ 100; decide, fun x hx => ?_, fun i hi => ⟨((b11 i (by omega)).rw (by omega) (by decide +kernel)).ne, ((b11 i (by omega)).rw (by omega) (by decide +kernel)).len, ((b11 i (by omega)).rw (by omega) (by decide +kernel)).sm⟩, by omega, fun p3 H3 s3 k3 => ?_⟩⟩
      · simp only [List.mem_cons, List.not_mem_nil, or_false] at hx
        rcases hx with e | e <;> rw [e] <;> (show (1 : Int).natAbs < 2 ^ 4000; decide +kernel)
      · exact q p3 H3 _ (s1.trans (Sx.of (s2.trans s3))) (d1.same (s2.trans s3)) k3 (b11 n hn) (nzr_pow rfl n)
end
theorem Fo.sl {C a : Addr} {H : Hp} {ns : List Int} (h : Fo C H a ns) : Slt H a C h.slt.choose [some (.ref h.slt.choose_spec.choose)] := h.slt.choose_spec.choose_spec.1
end K65

set_option Elab.async false
set_option linter.all false
set_option maxRecDepth 100000
set_option maxHeartbeats 4000000
set_option exponentiation.threshold 10000
namespace K65
open PySem PySem.Spec PyProof.Rows L2 StX RZ MyR SlX OwnR OwnF EnumT GxR GenNx FDivQ
def TD (ls : List (List Int)) : List PyData := ls.map fun l => .tuple (l.map PyData.int)
theorem lay_td : ∀ ls : List (List Int), PyData.canLayAll0 (TD ls) = true
  | [] => rfl
  | l :: r => by
    show (PyData.canLay0 (.tuple (l.map PyData.int)) && PyData.canLayAll0 (TD r)) = true
    rw [lay_td r, show PyData.canLay0 (.tuple (l.map PyData.int)) = PyData.canLayAll0 (l.map PyData.int) from rfl, lay_ints]
    rfl
theorem depth_td : ∀ ls : List (List Int), PyData.depthAll (TD ls) ≤ 1
  | [] => Nat.zero_le _
  | l :: r => by
    show max (PyData.depth (.tuple (l.map PyData.int))) (PyData.depthAll (TD r)) ≤ 1
    have h := depth_td r
    rw [show PyData.depth (.tuple (l.map PyData.int)) = PyData.depthAll (l.map PyData.int) + 1 from rfl, depth_ints]
    omega
theorem shaped_ltd (ls : List (List Int)) : SeqAt.shaped (.list (TD ls)) = true := by
  unfold SeqAt.shaped
  rw [show PyData.canLay0 (.list (TD ls)) = PyData.canLayAll0 (TD ls) from rfl, lay_td]
  rw [show PyData.depth (.list (TD ls)) = PyData.depthAll (TD ls) + 1 from rfl, decide_eq_true (show PyData.depthAll (TD ls) + 1 ≤ 64 by have := depth_td ls; omega)]
  rfl
end K65

set_option Elab.async false
set_option linter.all false
set_option maxRecDepth 100000
set_option maxHeartbeats 4000000
set_option exponentiation.threshold 10000
/-! walks: the ranks of all level tables; the law's killers -/
namespace K65
open PySem PySem.Spec PyProof.Rows L2 StX RZ MyR SlX OwnR OwnF EnumT GxR GenNx FDivQ LA
def rks (l : List Int) (n : Nat) : List Int := (List.range n).map fun d => (rk l d : Int)
theorem rks_len (l : List Int) (n : Nat) : (rks l n).length = n := by
  unfold rks
  rw [List.length_map, List.length_range]
/-- unit rows -/
def units (w : Nat) : List (List Int) := (List.range w).map fun i => tb w fun j => if i = j then 1 else 0
theorem kern_nil : ∀ w, w ≤ 10 → kern [] w = units w := by decide +kernel
theorem lrows_nil {l : List Int} {d : Nat} (h : l.length ≤ d) : lrows l d = [] := by
  unfold lrows
  rw [show l.length - d = 0 by omega]
  rfl
theorem dpAll_rt {K : PySem.W.Frag} {H : Hp} : ∀ {as : List Addr} {rows : List (List Int)}, RT H as rows → DpAll K H (as.map V.ref) (TD rows)
  | [], [], _ => .nil
  | a :: as, r :: rs, h => .cons (.tup (SqT.of h.1) (dpAll_ints _)) (dpAll_rt h.2)
theorem ne_sameD {K : PySem.W.Frag} {H : Hp} {x y : V} {d : PyData} {Q : VK} (hx : L2.Dp K H x d) (hy : L2.Dp K H y d) (hl : PyData.canLay0 d = true) (hs : SeqAt.shaped d = true) (q : Q (.bl false) H) : rNeD K x y H Q := by
  refine ⟨d, d, hx, hy, hs, hs, ?_⟩
  rw [SeqAt.eqv_refl d hl]
  exact q
theorem eq_sameD {K : PySem.W.Frag} {H : Hp} {x y : V} {d : PyData} {Q : VK} (hx : L2.Dp K H x d) (hy : L2.Dp K H y d) (hl : PyData.canLay0 d = true) (hs : SeqAt.shaped d = true) (q : Q (.bl true) H) : rEqD K x y H Q := by
  refine ⟨d, d, hx, hy, hs, hs, ?_⟩
  rw [SeqAt.eqv_refl d hl]
  exact q
theorem ne_rows {K : PySem.W.Frag} {H : Hp} {t u : Addr} {as bs : List Addr} {rows : List (List Int)} {Q : VK} (h : H t = some (.lst (as.map V.ref))) (r : RT H as rows) (h2 : H u = some (.lst (bs.map V.ref))) (r2 : RT H bs rows) (q : Q (.bl false) H) : rNeD K (.ref t) (.ref u) H Q :=
  ne_sameD (d := .list (TD rows)) (.lst (SqL.of h) (dpAll_rt r)) (.lst (SqL.of h2) (dpAll_rt r2)) (lay_td _) (shaped_ltd _) q
theorem iteB {p : Prop} [Decidable p] {A B : Prop} (h1 : p → A) (h2 : ¬p → B) : if decide p = true then A else B := by
  by_cases h : p
  · rw [decide_eq_true h]
    exact iteT (h1 h)
  · rw [decide_eq_false h]
    exact iteF (h2 h)
theorem eq_nil {K : PySem.W.Frag} {H : Hp} {t u : Addr} {as : List Addr} {rows : List (List Int)} {Q : VK} (h : H t = some (.lst (as.map V.ref))) (r : RT H as rows) (h2 : H u = some (.lst [])) (q : Q (.bl (decide (rows = []))) H) : rEqD K (.ref t) (.ref u) H Q := by
  refine ⟨.list (TD rows), .list [], .lst (SqL.of h) (dpAll_rt r), .lst (SqL.of h2) .nil, shaped_ltd _, by decide, ?_⟩
  cases rows with
  | nil => exact q
  | cons x xs => exact q
section
variable {P : Program} {w : World} {K : PySem.W.Frag} {mg : Str → Option Value} {base : Heap} {Ps : List Addr}
def spRanksIn (Ps : List Addr) : Sp := fun vs H Q _ => ∃ (a : Addr) (l : List Int), vs = [.ref a] ∧ H a = some (tp l) ∧ Lw l ∧ (∀ d, d < l.length → EOk less (lrows l d) (d + 1)) ∧ Tg Ps H ∧ ∀ p H', Sts Ps H H' → Tg Ps H' → H' p = some (ls (rks l l.length)) → Q (.ref p) H'
theorem ok_ranks_in (T : Facts K mg) (TB_first_of : TabB base mg T.c_first_of T.P_first_of) (hP : T.P_first_of ∈ Ps) : FnOk P w K mg base CX0 5 T.f_ranks_in T.fd_ranks_in ["entries"] (spRanksIn Ps) := by
  have G_level_rows := ok_level_rows (P := P) (w := w) (base := base) T
  have G_rank_of := ok_rank_of (P := P) (w := w) (base := base) T TB_first_of hP
  refine T.F_ranks_in.ok sc_ranks_in (fun vs H Q E h => ?_) (fun cdv A outer s H vs Q E hr h => ?_)
  · obtain ⟨a, l, rfl, _⟩ := h
    rfl
  · obtain ⟨a, l, rfl, ha, hl, he, g, q⟩ := h
    have l1 := hl.l1
    have l8 := hl.l8
    refine ⟨_, (PSs.nox (pss_one (ps_ret (pe_lc (own := [("degree", 1)]) (g := (gName 1)) (tt := tYes) (by rfl) sc_ranks_in.nd (pi_range1 (by rfl) T.z_range (pa_cons (pe_callB call_len_seq (by rfl) T.z_len (by decide +kernel) (pa_cons (pv 0) pa_nil)) pa_nil)) (blkOk_by (N := N_ranks_in) (sc := defScope s_ranks_in) (by decide +kernel)) (fun _ _ _ _ _ => (pg_name (i := 1) sc_ranks_in.nd rfl (.inl rfl))) (fun _ _ _ _ _ => pts_nil) (fun _ _ _ _ _ => (pe_call G_rank_of hr (by rfl) T.g_rank_of T.F_rank_of.kp T.b_rank_of .nil pass0 (pa_cons (pe_call G_level_rows (hr.mono (by decide)) (by rfl) T.g_level_rows T.F_level_rows.kp T.b_level_rows .nil pass0 (pa_cons (pv 0) (pa_cons (pv 1) pa_nil))) (pa_cons (pe_op op_add (pv 1) pe_int) pa_nil)))))))), ?_⟩
    refine ⟨_, rfl, a, _, rfl, .inr (SqT.of ha), ?_⟩
    rw [List.length_map]
    refine ⟨_, rfl, by omega, by omega, fun D hD => ?_⟩
    refine lc_range (n := l.length) (fun j H' => Sts Ps H H' ∧ Tg Ps H' ∧ H' D = some (ls (rks l j))) ⟨Sts.of (same_upd0 hD), g.same (same_upd0 hD), upd_same⟩ (fun j H1 hj hP => ?_) (fun H1 hP => ?_)
    · obtain ⟨s1, g1, h1⟩ := hP
      refine ⟨rfl, _, rfl, _, rfl, a, l, j, ?_, s1.tup g ha, hl, by omega, fun p bs H2 s2 p2 r2 => ?_⟩
      · show [V.ref a, V.int (0 + (j : Int))] ++ [] = _
        rw [Int.zero_add]
        rfl
      have h2 := s2 _ _ h1
      have g2 := g1.same s2
      refine ⟨_, rfl, _, _, rfl, rfl, p, bs, lrows l j, j + 1, ?_, .inr p2, RX.imp (fun a r e => .inl e) r2, by rw [lrows_len]; omega, by omega, lrows_w, he j hj, g2, fun H3 s3 g3 => ⟨_, s3.lst g2 h2, ?_, fun b o nb e => ?_, ?_, ?_⟩⟩
      · show [V.ref p, V.int (0 + (j : Int) + 1)] ++ [] = _
        rw [Int.zero_add]
        rfl
      · rw [List.length_map, rks_len]
        exact small1000 (by omega)
      · rw [upd_ne (ne_of_none e hD)]
        exact s3 _ _ nb (s2 _ _ (s1 _ _ nb e))
      · exact tg_updL g3 (s3.lst g2 h2)
      · rw [upd_same]
        unfold rks ls
        rw [List.range_succ, List.map_append, List.map_append]
        rfl
    · obtain ⟨s1, g1, h1⟩ := hP
      exact q D H1 s1 g1 h1
def spLKR : Sp := fun vs H Q _ => ∃ (a : Addr) (l : List Int) (d : Nat), vs = [.ref a, .int d] ∧ H a = some (tp l) ∧ Lw l ∧ d ≤ l.length ∧ KB (lrows l d) (d + 1) ∧ ∀ p bs H', Same H H' → H' p = some (.lst (bs.map V.ref)) → RT H' bs (kern (lrows l d) (d + 1)) → Q (.ref p) H'
theorem ok_law_killer_rows (T : Facts K mg) : FnOk P w K mg base CX0 6 T.f_law_killer_rows T.fd_law_killer_rows ["_law_entries", "_law_degree"] spLKR := by
  have G_law_killer_table := ok_law_killer_table (P := P) (w := w) (base := base) T
  have G_law_kernel := ok_law_kernel (P := P) (w := w) (base := base) T
  refine T.F_law_killer_rows.ok sc_law_killer_rows (fun vs H Q E h => ?_) (fun cdv A outer s H vs Q E hr h => ?_)
  · obtain ⟨a, l, d, rfl, _⟩ := h
    rfl
  · obtain ⟨a, l, d, rfl, ha, hl, hd, k, q⟩ := h
    have l1 := hl.l1
    have l8 := hl.l8
    refine ⟨_, (PSs.nox (pss_cons (ps_if (pt_cmpR op_ge (pv 1) (pe_callB call_len_seq (by rfl) T.z_len (by decide +kernel) (pa_cons (pv 0) pa_nil)) (nomark _))
      (pss_one (ps_ret (pe_lc (own := [("_law_at", 3)]) (g := (gName 3)) (tt := tYes) (by rfl) sc_law_killer_rows.nd (pi_range1 (by rfl) T.z_range (pa_cons (pe_op op_add (pv 1) pe_int) pa_nil)) (blkOk_by (N := N_law_killer_rows) (sc := defScope s_law_killer_rows) (by decide +kernel)) (fun _ _ _ _ _ => (pg_name (i := 3) sc_law_killer_rows.nd rfl (.inr rfl))) (fun _ _ _ _ _ => pts_nil) (fun _ _ _ _ _ => (pe_tupleOf (by rfl) T.z_tuple (pe_lc (own := [("_law_place", 2)]) (g := (gName 2)) (tt := tYes) (by rfl) sc_law_killer_rows.nd (pi_range1 (by rfl) T.z_range (pa_cons (pe_op op_add (pv 1) pe_int) pa_nil)) (blkOk_by (N := N_law_killer_rows) (sc := relS _ (defScope s_law_killer_rows)) (by decide +kernel)) (fun _ _ _ _ _ => (pg_name (i := 2) sc_law_killer_rows.nd rfl (.inl rfl))) (fun _ _ _ _ _ => pts_nil) (fun _ _ _ _ _ => (pe_callTy call_int1 (by rfl) T.z_int (by decide +kernel) (pa_cons (pe_cmpR op_eq (pv 3) (pv 2) (nomark _)) pa_nil)))) : PE _ _ (tThen _ (kTup K)))))))
      pss_nil)
    (pss_one (ps_ret (pe_call G_law_kernel hr (by rfl) T.g_law_kernel T.F_law_kernel.kp T.b_law_kernel .nil pass0 (pa_cons (pe_call G_law_killer_table (hr.mono (by decide)) (by rfl) T.g_law_killer_table T.F_law_killer_table.kp T.b_law_killer_table .nil pass0 (pa_cons (pv 0) (pa_cons (pv 1) pa_nil))) (pa_cons (pe_op op_add (pv 1) pe_int) pa_nil))))))), ?_⟩
    refine ⟨_, rfl, _, rfl, a, _, rfl, .inr (SqT.of ha), _, _, rfl, rfl, _, rfl, ?_⟩
    rw [List.length_map]
    by_cases c : l.length ≤ d
    · rw [decide_eq_true (show (l.length : Int) ≤ (d : Int) by omega)]
      refine iteT ?_
      refine ⟨_, rfl, _, _, rfl, rfl, (d : Int) + 1, rfl, by omega, by omega, fun D hD => ?_⟩
      refine lc_rangeT (f := fun i => tb (d + 1) fun j => if i = j then 1 else 0) hD (by omega) (fun _ => rfl) (fun i H2 Q2 hi s2 kq => ?_) (fun bs H6 s6 d6 r6 => ?_)
      · refine ⟨_, rfl, _, _, rfl, rfl, (d : Int) + 1, rfl, by omega, by omega, fun E1 hE => ?_⟩
        rw [show ((d : Int) + 1).toNat = d + 1 by omega]
        refine lc_range (n := d + 1) (fun j H' => H' = upd H2 E1 (ls (tb j fun j => if i = j then 1 else 0))) rfl (fun j H' hj hP => ?_) (fun H' hP => ?_)
        · subst hP
          rw [Int.zero_add]
          refine ⟨rfl, _, rfl, _, rfl, rfl, .inr ⟨_, rfl, _, upd_same, ?_, ?_⟩⟩
          · rw [List.length_map, tb_len]
            exact small1000 (by omega)
          · rw [upd_upd, tbs]
            unfold ls
            rw [List.map_append]
            have e : (V.int (if decide (V.int (i : Int) = V.int (j : Int)) = true then 1 else 0)) = V.int (if i = j then 1 else 0) := by
              by_cases q : i = j
              · rw [if_pos q, decide_eq_true (by rw [q]), if_pos rfl]
              · rw [if_neg q, decide_eq_false (fun z => q (by have := V.int.inj z; omega)), if_neg (by decide)]
            show upd H2 E1 (.lst (_ ++ [V.int (if decide (V.int (i : Int) = V.int (j : Int)) = true then 1 else 0)])) = _
            rw [e]
            rfl
        · subst hP
          exact .inl ⟨E1, _, rfl, SqL.of upd_same, fun p hp => kq p _ (fun b o e => same_upd0 hp _ _ (same_upd0 hE _ _ e)) upd_same⟩
      · refine q D bs H6 s6 d6 ?_
        rw [lrows_nil c, kern_nil _ (by omega)]
        rw [show ((d : Int) + 1).toNat = d + 1 by omega] at r6
        exact r6
    · rw [decide_eq_false (show ¬ (l.length : Int) ≤ (d : Int) by omega)]
      refine iteF ?_
      refine ⟨_, rfl, _, rfl, a, l, d, rfl, ha, hl, hd, fun t as H1 s1 t1 r1 => ?_⟩
      refine ⟨_, rfl, _, _, rfl, rfl, t, as, lrows l d, d + 1, rfl, .inr t1, RX.imp (fun a r e => .inl e) r1, by rw [lrows_len]; omega, by omega, lrows_w, k.le, k.lt, k.lk, k.le2, fun p bs H2 s2 p2 r2 => ?_⟩
      rw [k.ke] at r2
      exact q p bs H2 (s1.trans s2) p2 r2
def spLeast : Sp := fun vs H Q _ => ∃ (a : Addr) (l : List Int) (r : Nat), vs = [.ref a] ∧ H a = some (tp l) ∧ Lw l ∧ r ≤ l.length ∧ (∀ d, d ≤ r → KB (lrows l d) (d + 1)) ∧ (∀ d, d < r → kd l d = 0) ∧ 0 < kd l r ∧ ∀ H', Same H H' → Q (.int (r : Nat)) H'
theorem ok_law_least_kill (T : Facts K mg) : FnOk P w K mg base CX0 7 T.f_law_least_kill T.fd_law_least_kill ["_law_entries"] spLeast := by
  have G_law_killer_rows := ok_law_killer_rows (P := P) (w := w) (base := base) T
  refine T.F_law_least_kill.ok sc_law_least_kill (fun vs H Q E h => ?_) (fun cdv A outer s H vs Q E hr h => ?_)
  · obtain ⟨a, l, r, rfl, _⟩ := h
    rfl
  · obtain ⟨a, l, r, rfl, ha, hl, hr2, hk, h0, h1, q⟩ := h
    refine ⟨_, (PSs.nox (pss_cons (ps_set (i := 1) sc_law_least_kill.nd rfl (.inl rfl) pe_int)
    (pss_cons (ps_while PassesOwn.never (pt_cmpR (op_eqD (hu64 hr)) (pe_call G_law_killer_rows hr (by rfl) T.g_law_killer_rows T.F_law_killer_rows.kp T.b_law_killer_rows .nil pass0 (pa_cons (pv 0) (pa_cons (pv 1) pa_nil))) (pe_lst pa_nil) (nomark _))
      (pss_one (ps_set (i := 1) sc_law_least_kill.nd rfl (.inl rfl) (pe_op op_add (pv 1) pe_int))))
    (pss_one (ps_ret (pv 1)))))), ?_⟩
    refine ⟨fun m σ H' => ∃ i, σ = [some (.ref a), some (.int (i : Nat))] ∧ i ≤ r ∧ m = r - i ∧ Same H H', ⟨r, 0, rfl, Nat.zero_le _, rfl, Same.rf _⟩, fun m σ H1 hP => ?_⟩
    obtain ⟨i, rfl, hi, rfl, s1⟩ := hP
    refine ⟨_, rfl, _, rfl, a, l, i, rfl, s1 _ _ ha, hl, by omega, hk i hi, fun p bs H2 s2 p2 r2 => ?_⟩
    refine ⟨Nat.zero_le _, fun L hL => gen_upd H2 L (.lst []) hL fun H3 s3 e3 => eq_nil (s3 _ _ p2) (RT.same r2 s3) e3 ⟨_, rfl, iteB (fun c => ?_) (fun c => ?_)⟩⟩
    · refine ⟨fun σ H' => ∃ i', σ = [some (.ref a), some (.int (i' : Nat))] ∧ i' ≤ r ∧ r - i' < r - i ∧ Same H H', fun σ' H' hN => ?_, ?_⟩
      · obtain ⟨i', e, h1', h2', s'⟩ := hN
        exact ⟨r - i', h2', i', e, h1', rfl, s'⟩
      · have ne : i ≠ r := fun z => by
          rw [z] at c
          unfold kd at h1
          rw [c] at h1
          exact absurd h1 (Nat.lt_irrefl _)
        exact ⟨_, rfl, _, _, rfl, rfl, i + 1, rfl, by omega, by omega, s1.trans (s2.trans s3)⟩
    · have e : i = r := by
        refine Classical.byContradiction fun ne => c ?_
        have := h0 i (by omega)
        exact List.eq_nil_of_length_eq_zero this
      subst e
      exact ⟨_, rfl, q H3 (s1.trans (s2.trans s3))⟩
end
end K65

set_option Elab.async false
set_option linter.all false
set_option maxRecDepth 100000
set_option maxHeartbeats 4000000
set_option exponentiation.threshold 10000
/-! walks: the law's check of ranks and killers -/
namespace K65
open PySem PySem.Spec PyProof.Rows L2 StX RZ MyR SlX OwnR OwnF EnumT GxR GenNx FDivQ LA
abbrev D14 : Nat := 100000000000000
theorem coB {l : List Int} {B : Nat} (h : ∀ x ∈ l, x.natAbs ≤ B) (k : Nat) : (co l k).natAbs ≤ B := by
  by_cases c : k < l.length
  · exact h _ (co_memE c)
  · rw [co_far (by omega)]
    exact Nat.zero_le _
theorem Bd.lw {l : List Int} {n : Nat} (h : Bd l n D14) (hn : n ≤ 8) : Lw l := ⟨by rw [h.len]; omega, by rw [h.len]; omega, fun x hx => Nat.lt_of_le_of_lt (h.mem x hx) (by decide +kernel)⟩
theorem Bd.shoE {l : List Int} {n : Nat} (h : Bd l n D14) : ∀ x ∈ l, Sho x := fun x hx => Nat.lt_of_le_of_lt (h.mem x hx) (by decide +kernel)
theorem tuple_form {K : PySem.W.Frag} {C a : Addr} {H : Hp} {l : List Int} {Q : VK} (fa : Fo C H a l) (hl : l.length ≤ 1000) (q : ∀ p H', Same H H' → H' p = some (tp l) → Q (.ref p) H') : rTupO K C (spIterF C) (spLenF C) E0 E0 [.ref a] H Q := by
  obtain ⟨dx, t, ha, ht⟩ := fa.slt
  refine ⟨a, dx, _, rfl, ha, fun p hp => ⟨a, l, rfl, fa.same (same_upd0 hp), fun t' it ht' hit => ⟨it, t', l.map V.int, dx, _, rfl, upd_same, SqT.of (same_upd0 hit _ _ ht'), same_upd0 hit _ _ upd_same, slt_upd (slt_upd ha hp) hit, a, l, rfl, (fa.same (same_upd0 hp)).same (same_upd0 hit), ?_⟩⟩⟩
  have hz : (1000 : Nat) ≤ sizeLine := by decide
  refine ⟨_, rfl, ⟨by omega, by omega⟩, upd_same, SqT.of (same_upd0 hit _ _ ht'), same_upd0 hit _ _ upd_same, by rw [List.length_map]; exact hl, fun H4 p4 h4 keep n4 => q p4 _ (fun b o e => same_upd0 n4 _ _ ?_) upd_same⟩
  have e1 := same_upd0 (o := .lst []) hp _ _ e
  exact keep b o (ne_of_none e1 hit) (ne_of_none e hp) (same_upd0 hit _ _ e1)
theorem FX.get {C : Addr} {H : Hp} {as : List Addr} {rs : List (List Int)} {i : Nat} {x : V} (h : FX C H as rs) (hx : (as.map V.ref)[i]? = some x) : ∃ a r, x = .ref a ∧ rs[i]? = some r ∧ Fo C H a r := by
  rw [List.getElem?_map] at hx
  obtain ⟨a, ha, rfl⟩ := Option.map_eq_some_iff.mp hx
  obtain ⟨a', r, e1, e2, e3⟩ := RX.get h (by rw [← RX.len h]; exact (List.getElem?_eq_some_iff.mp ha).1)
  rw [ha] at e1
  cases e1
  exact ⟨a, r, rfl, e2, e3⟩
/-- [tuple(f) for f in forms] -/
theorem lc_forms {K : PySem.W.Frag} {C a : Addr} {bs : List Addr} {R : List (List Int)} {te : TE} {σ : L2.St} {k : Nat} {H1 : Hp} {D : Addr} {Qd : Hp → Prop} (hD : H1 D = none) (ha : H1 a = some (.tup (bs.map V.ref))) (hR : FX C H1 bs R) (hl : R.length ≤ 100) (h1 : ∀ r ∈ R, r.length ≤ 1000)
    (hw : ∀ x, wipe ((wipe σ [k]).set k (some x)) [k] = wipe σ [k])
    (hte : ∀ (ad : Addr) (H2 : Hp) (Q : VK), rTupO K C (spIterF C) (spLenF C) E0 E0 [.ref ad] H2 Q → te ((wipe σ [k]).set k (some (.ref ad))) H2 Q)
    (hd : ∀ cs H6, Same H1 H6 → H6 D = some (.lst (cs.map V.ref)) → RT H6 cs R → Qd H6) :
    ∃ W : Nat → Nat → Hp → Prop, (∃ m, W 0 m (upd H1 D (.lst []))) ∧ ∀ i m H, W i m H →
      ((Itt K a).stop i H ∧ Qd H) ∨ ((Itt K a).go i H ∧ ∃ Nx : Hp → Prop, (∀ H', Nx H' → ∃ m', m' < m ∧ W (i + 1) m' H') ∧ ∀ x H', (Itt K a).yld i H x H' → gName k x (wipe σ [k]) H' fun σ2 H2 => wipe σ2 [k] = wipe σ [k] ∧ tYes σ2 H2 fun b H3 =>
        if b = true then te σ2 H3 fun y H4 => ∃ acc, H4 D = some (.lst acc) ∧ acc.length < sizeLine ∧ Nx (upd H4 D (.lst (acc ++ [y]))) else Nx H3) := by
  have rl := RX.len hR
  refine lc_tup (xs := bs.map V.ref) (fun j H' => ∃ cs, Same H1 H' ∧ H' D = some (.lst (cs.map V.ref)) ∧ cs.length = j ∧ RT H' cs (R.take j)) ⟨[], same_upd0 hD, upd_same, rfl, True.intro⟩ (fun j H' _ hP => SqT.of (hP.choose_spec.1 _ _ ha)) (fun j x H' hx hP => ?_) (fun H' hP => ?_)
  · obtain ⟨cs, s13, h1', h2, h3⟩ := hP
    obtain ⟨ad, r, rfl, hk, fk⟩ := hR.get hx
    have hj := (List.getElem?_eq_some_iff.mp hk).1
    refine ⟨hw _, ?_⟩
    show te _ _ _
    refine hte ad H' _ (tuple_form (fk.same s13) (h1 r (List.mem_of_getElem? hk)) fun p14 H14 s14 e14 => ⟨cs.map V.ref, s14 _ _ h1', ?_, cs ++ [p14], fun b o e => ?_, ?_, ?_, ?_⟩)
    · rw [List.length_map, h2]
      exact small1000 (by omega)
    · rw [upd_ne (ne_of_none e hD)]
      exact s14 _ _ (s13 _ _ e)
    · rw [upd_same, List.map_append]
      rfl
    · rw [List.length_append, h2]
      rfl
    · rw [List.take_add_one, hk]
      refine RX.snoc (RT.updL (RT.same h3 s14) (s14 _ _ h1')) ?_
      show upd H14 D _ p14 = _
      rw [upd_ne fun z => by rw [z, s14 _ _ h1'] at e14; cases e14]
      exact e14
  · obtain ⟨cs, s13, h1', h2, h3⟩ := hP
    rw [List.length_map, rl, List.take_length] at h3
    exact hd cs H' s13 h1' h3
section
variable {P : Program} {w : World} {K : PySem.W.Frag} {mg : Str → Option Value} {base : Heap} {Ps : List Addr}
def spLRight (Ps : List Addr) : Sp := fun vs H Q _ => ∃ d : Addr, vs = [.ref d] ∧ Dp d Ps H ∧ ∀ H', Sy d Ps H H' → Dp d Ps H' → Q (.bl true) H'
end
end K65

set_option Elab.async false
set_option linter.all false
set_option maxRecDepth 100000
set_option maxHeartbeats 2000000
set_option exponentiation.threshold 10000
/-! sums of few powers -/
namespace K65
open PySem PySem.Spec PyProof.Rows L2 FDivQ LA
theorem evF_S (g : Nat → Int) (x y : Int) : ∀ d, S (d + 1) (fun a => g a * (x ^ (d - a) * y ^ a)) = evF (d + 1) g x y
  | 0 => by
    show 0 + g 0 * (x ^ 0 * y ^ 0) = x * 0 + g 0 * y ^ 0
    rw [Int.pow_zero, Int.pow_zero]
    omega
  | d + 1 => by
    show S (d + 1) (fun a => g a * (x ^ (d + 1 - a) * y ^ a)) + g (d + 1) * (x ^ (d + 1 - (d + 1)) * y ^ (d + 1)) = x * evF (d + 1) g x y + g (d + 1) * y ^ (d + 1)
    rw [← evF_S g x y d, ← S_mul, Nat.sub_self, Int.pow_zero, Int.one_mul]
    congr 1
    refine S_congr fun a ha => ?_
    rw [show d + 1 - a = (d - a) + 1 by omega, Int.pow_succ]
    grind
/-- powers of different points are independent -/
theorem pw_ind : ∀ (k m : Nat) (u v b : Nat → Int), (∀ i j, i < k → j < k → i ≠ j → u i * v j - v i * u j ≠ 0) → (∀ i, i < k → u i ≠ 0 ∨ v i ≠ 0) → k ≤ m + 1 → (∀ a, a ≤ m → S k (fun i => b i * (u i ^ (m - a) * v i ^ a)) = 0) → ∀ i, i < k → b i = 0
  | 0, _, _, _, _, _, _, _, _, i, hi => absurd hi (Nat.not_lt_zero i)
  | k + 1, m, u, v, b, hd, hn, hk, h, i, hi => by
    have low : ∀ i, i < k → b i = 0 := fun i hi => by
      cases m with
      | zero =>
        have : k = 0 := by omega
        omega
      | succ m =>
        have ih := pw_ind k m u v (fun i => b i * (u i * v k - v i * u k)) (fun i j hi hj => hd i j (by omega) (by omega)) (fun i hi => hn i (by omega)) (by omega) (fun a ha => by
          have e1 := h a (by omega)
          have e2 := h (a + 1) (by omega)
          have e3 : S (k + 1) (fun i => (b i * (u i * v k - v i * u k)) * (u i ^ (m - a) * v i ^ a)) = v k * S (k + 1) (fun i => b i * (u i ^ (m + 1 - a) * v i ^ a)) + (- u k) * S (k + 1) (fun i => b i * (u i ^ (m + 1 - (a + 1)) * v i ^ (a + 1))) := by
            rw [← S_mul, ← S_mul, ← S_add]
            refine S_congr fun i _ => ?_
            rw [show m + 1 - a = (m - a) + 1 by omega, show m + 1 - (a + 1) = m - a by omega, Int.pow_succ, Int.pow_succ]
            grind
          rw [e1, e2, Int.mul_zero, Int.mul_zero] at e3
          have e4 : S k (fun i => (b i * (u i * v k - v i * u k)) * (u i ^ (m - a) * v i ^ a)) + (b k * (u k * v k - v k * u k)) * (u k ^ (m - a) * v k ^ a) = 0 := e3
          rw [show u k * v k - v k * u k = 0 by rw [Int.mul_comm]; omega, Int.mul_zero, Int.zero_mul, Int.add_zero] at e4
          exact e4) i hi
        exact (Int.mul_eq_zero.mp ih).resolve_right (hd i k (by omega) (by omega) (by omega))
    by_cases c : i < k
    · exact low i c
    · have e : i = k := by omega
      subst e
      have lst : ∀ a, a ≤ m → b i * (u i ^ (m - a) * v i ^ a) = 0 := fun a ha => by
        have e1 : S i (fun j => b j * (u j ^ (m - a) * v j ^ a)) + b i * (u i ^ (m - a) * v i ^ a) = 0 := h a ha
        rw [S_zero fun j hj => by rw [low j hj, Int.zero_mul], Int.zero_add] at e1
        exact e1
      have pz : ∀ (x : Int), x ≠ 0 → ∀ n : Nat, x ^ n ≠ 0 := fun x hx n => by
        induction n with
        | zero => rw [Int.pow_zero]; decide
        | succ n ih => rw [Int.pow_succ]; exact Int.mul_ne_zero ih hx
      rcases hn i hi with q | q
      · have e1 := lst 0 (Nat.zero_le _)
        rw [Nat.sub_zero, Int.pow_zero, Int.mul_one] at e1
        exact (Int.mul_eq_zero.mp e1).resolve_right (pz _ q m)
      · have e1 := lst m (Nat.le_refl _)
        rw [Nat.sub_self, Int.pow_zero, Int.one_mul] at e1
        exact (Int.mul_eq_zero.mp e1).resolve_right (pz _ q m)
/-- a square independent table kills nothing -/
theorem ind_perp {w : Nat} {A : Nat → Nat → Int} (hI : Ind w w A) {g : Nat → Int} (h : ∀ i, i < w → S w (fun j => g j * A i j) = 0) : ∀ j, j < w → g j = 0 := fun j hj => by
  have sp : Sp w w A (fun k => if k = j then 1 else 0) := by
    obtain ⟨y, ⟨i, hi, hy⟩, e⟩ := dep w (w + 1) (fun i k => if i < w then A i k else (if k = j then 1 else 0)) (by omega)
    have e' : ∀ k, k < w → S w (fun i => y i * A i k) + y w * (if k = j then 1 else 0) = 0 := fun k hk => by
      have := e k hk
      have e2 : S w (fun i => y i * (if i < w then A i k else (if k = j then 1 else 0))) + y w * (if w < w then A w k else (if k = j then 1 else 0)) = 0 := this
      rw [if_neg (Nat.lt_irrefl _), S_congr (g := fun i => y i * A i k) fun i hi => by rw [if_pos hi]] at e2
      exact e2
    have yw : y w ≠ 0 := fun z => by
      have y0 : ∀ i, i < w → y i = 0 := hI y fun k hk => by
        have := e' k hk
        rw [z, Int.zero_mul, Int.add_zero] at this
        exact this
      by_cases c : i < w
      · exact hy (y0 i c)
      · exact hy (by rw [show i = w by omega]; exact z)
    refine ⟨y w, yw, fun i => - y i, fun k hk => ?_⟩
    have := e' k hk
    rw [S_congr (g := fun i => (-1) * (y i * A i k)) fun i _ => by rw [Int.neg_mul, Int.neg_mul, Int.one_mul], S_mul]
    show y w * (if k = j then 1 else 0) = _
    omega
  have := sp.perp h
  rw [S_one (p := j) hj fun k hk hne => by rw [if_neg hne, Int.mul_zero], if_pos rfl, Int.mul_one] at this
  exact this
theorem roots_zero {k : Nat} {u v : Nat → Int} (hd : ∀ i j, i < k + 1 → j < k + 1 → i ≠ j → u i * v j - v i * u j ≠ 0) (hn : ∀ i, i < k + 1 → u i ≠ 0 ∨ v i ≠ 0) {g : Nat → Int} (h : ∀ i, i < k + 1 → evF (k + 1) g (u i) (v i) = 0) : ∀ j, j < k + 1 → g j = 0 := by
  refine ind_perp (A := fun i a => u i ^ (k - a) * v i ^ a) (fun b hb => ?_) fun i hi => ?_
  · exact pw_ind (k + 1) k u v b hd hn (Nat.le_refl _) fun a ha => hb a (by omega)
  · rw [evF_S]
    exact h i hi
/-! levels of powers -/
theorem co_ml2 (u v : Int) {P : List Int} (hP : P ≠ []) (j : Nat) : co (ml P [u, v]) j = u * co P j + (if j = 0 then 0 else v * co P (j - 1)) := by
  rw [ml_comm, co_ml hP]
  cases j with
  | zero => rw [cv_zero, if_pos rfl, Int.add_zero]
  | succ j =>
    rw [cv_succ, if_neg (by omega), Nat.add_sub_cancel]
    cases j with
    | zero => rw [cv_zero]
    | succ j => rw [cv_succ, cv_nil, Int.add_zero]
theorem levp (u v : Int) : ∀ n j, j ≤ n → (fc j : Int) * (fc (n - j) : Int) * co (pow [u, v] n) j = (fc n : Int) * (u ^ (n - j) * v ^ j)
  | 0, j, h => by
    have : j = 0 := by omega
    subst this
    show (1 : Int) * 1 * 1 = 1 * (u ^ 0 * v ^ 0)
    rw [Int.pow_zero, Int.pow_zero]
    rfl
  | n + 1, j, h => by
    have pn := pow_ne (l := [u, v]) (by simp) n
    have pl := pow_len (l := [u, v]) rfl n
    show (fc j : Int) * (fc (n + 1 - j) : Int) * co (ml (pow [u, v] n) [u, v]) j = _
    rw [co_ml2 u v pn]
    have f1 : j ≤ n → (fc (n + 1 - j) : Int) = ((n + 1 - j : Nat) : Int) * (fc (n - j) : Int) := fun hj => by
      rw [show n + 1 - j = (n - j) + 1 by omega]
      show (((n - j + 1) * fc (n - j) : Nat) : Int) = _
      rw [Int.natCast_mul]
    have fN : (fc (n + 1) : Int) = ((n + 1 : Nat) : Int) * (fc n : Int) := by
      show (((n + 1) * fc n : Nat) : Int) = _
      rw [Int.natCast_mul]
    have A : (fc j : Int) * (fc (n + 1 - j) : Int) * (u * co (pow [u, v] n) j) = ((n + 1 - j : Nat) : Int) * ((fc n : Int) * (u ^ (n + 1 - j) * v ^ j)) := by
      by_cases hj : j ≤ n
      · have ih := levp u v n j hj
        rw [f1 hj, show n + 1 - j = (n - j) + 1 by omega, Int.pow_succ]
        generalize ((n - j + 1 : Nat) : Int) = t
        have : (fc j : Int) * (t * (fc (n - j) : Int)) * (u * co (pow [u, v] n) j) = t * u * ((fc j : Int) * (fc (n - j) : Int) * co (pow [u, v] n) j) := by grind
        rw [this, ih]
        grind
      · rw [co_far (l := pow [u, v] n) (by omega), show n + 1 - j = 0 by omega]
        rw [Int.mul_zero, Int.mul_zero]
        exact (Int.zero_mul _).symm
    have B : (fc j : Int) * (fc (n + 1 - j) : Int) * (if j = 0 then 0 else v * co (pow [u, v] n) (j - 1)) = (j : Int) * ((fc n : Int) * (u ^ (n + 1 - j) * v ^ j)) := by
      cases j with
      | zero =>
        rw [if_pos rfl, Int.mul_zero]
        exact (Int.zero_mul _).symm
      | succ j =>
        have ih := levp u v n j (by omega)
        rw [if_neg (by omega), Nat.add_sub_cancel, show n + 1 - (j + 1) = n - j by omega, Int.pow_succ]
        have fj : (fc (j + 1) : Int) = ((j + 1 : Nat) : Int) * (fc j : Int) := by
          show (((j + 1) * fc j : Nat) : Int) = _
          rw [Int.natCast_mul]
        rw [fj]
        generalize ((j + 1 : Nat) : Int) = t
        have : t * (fc j : Int) * (fc (n - j) : Int) * (v * co (pow [u, v] n) j) = t * v * ((fc j : Int) * (fc (n - j) : Int) * co (pow [u, v] n) j) := by grind
        rw [this, ih]
        grind
    rw [Int.mul_add, A, B, fN, ← Int.add_mul]
    have : ((n + 1 - j : Nat) : Int) + (j : Int) = ((n + 1 : Nat) : Int) := by omega
    rw [this, Int.mul_assoc]
/-- a form that is a sum of powers -/
structure PS (f : List Int) (n k : Nat) (c u v : Nat → Int) : Prop where
  len : f.length = n + 1
  lev : ∀ j, j ≤ n → co (lev f) j = (fc n : Int) * S k (fun i => c i * (u i ^ (n - j) * v i ^ j))
theorem PS.zero (n : Nat) (c u v : Nat → Int) : PS (List.replicate (n + 1) 0) n 0 c u v := ⟨List.length_replicate, fun j hj => by
  rw [co_lev (by rw [List.length_replicate]; omega), co_get (by rw [List.length_replicate]; omega), List.getElem_replicate, Int.mul_zero]
  exact (Int.mul_zero _).symm⟩
theorem PS.step {f : List Int} {n k : Nat} {c u v : Nat → Int} (h : PS f n k c u v) : PS (zs 1 f ((pow [u k, v k] n).map fun x => c k * x)) n (k + 1) c u v := by
  have pl := pow_len (l := [u k, v k]) rfl n
  have e : f.length = ((pow [u k, v k] n).map fun x => c k * x).length := by rw [h.len, List.length_map, pl]
  have zl := zs_len (c := 1) e
  refine ⟨by rw [zl, h.len], fun j hj => ?_⟩
  have i1 := h.lev j hj
  rw [co_lev (by rw [h.len]; omega), h.len] at i1
  rw [co_lev (by rw [zl, h.len]; omega), zl, h.len, co_zs' 1 e, co_map, Int.one_mul, Int.mul_add, i1]
  show _ = (fc n : Int) * (S k _ + _)
  rw [Int.mul_add]
  congr 1
  have := levp (u k) (v k) n j hj
  rw [show n + 1 - 1 - j = n - j by omega]
  have e2 : (fc j : Int) * (fc (n - j) : Int) * (c k * co (pow [u k, v k] n) j) = c k * ((fc j : Int) * (fc (n - j) : Int) * co (pow [u k, v k] n) j) := by grind
  rw [e2, this]
  grind
theorem PS.kl {f : List Int} {n k d : Nat} {c u v : Nat → Int} (h : PS f n k c u v) (hd : d ≤ n) {g : Nat → Int} {a : Nat} (ha : a ≤ n - d) : S (d + 1) (fun j => g j * co (K65.lev f) (a + j)) = (fc n : Int) * S k (fun i => (c i * evF (d + 1) g (u i) (v i)) * (u i ^ (n - d - a) * v i ^ a)) := by
  have e : S (d + 1) (fun j => g j * co (K65.lev f) (a + j)) = S (d + 1) (fun j => S k (fun i => (fc n : Int) * (g j * (c i * (u i ^ (n - (a + j)) * v i ^ (a + j)))))) := S_congr fun j hj => by
    rw [h.lev (a + j) (by omega), S_mul, S_mul]
    grind
  rw [e, S_swap, ← S_mul]
  refine S_congr fun i _ => ?_
  rw [S_mul, ← evF_S, ]
  congr 1
  have e3 : S (d + 1) (fun j => g j * (c i * (u i ^ (n - (a + j)) * v i ^ (a + j)))) = S (d + 1) (fun j => (c i * (u i ^ (n - d - a) * v i ^ a)) * (g j * (u i ^ (d - j) * v i ^ j))) := S_congr fun j hj => by
    rw [show n - (a + j) = (n - d - a) + (d - j) by omega, Int.pow_add, Int.pow_add]
    grind
  rw [e3, S_mul]
  grind
theorem PS.kl_of {f : List Int} {n k d : Nat} {c u v : Nat → Int} (h : PS f n k c u v) (hd : d ≤ n) {g : Nat → Int} (hg : ∀ i, i < k → evF (d + 1) g (u i) (v i) = 0) : Kl f d g := fun a ha => by
  rw [h.kl hd (by rw [h.len] at ha; omega), S_zero fun i hi => by rw [hg i hi, Int.mul_zero, Int.zero_mul], Int.mul_zero]
theorem PS.kd_low {f : List Int} {n k d : Nat} {c u v : Nat → Int} (h : PS f n k c u v) (hd : d < k) (hk : 2 * k ≤ n + 1) (hc : ∀ i, i < k → c i ≠ 0) (hne : ∀ i j, i < k → j < k → i ≠ j → u i * v j - v i * u j ≠ 0) (hn : ∀ i, i < k → u i ≠ 0 ∨ v i ≠ 0) : kd f d = 0 := by
  rcases Nat.eq_zero_or_pos (kd f d) with z | z
  · exact z
  · exfalso
    have K := ks (lrows_w (l := f) (d := d))
    have kl := kl_kern z
    have nz : row (kern (lrows f d) (d + 1)) 0 (ld ((kern (lrows f d) (d + 1)).getD 0 [])) ≠ 0 := K.nz _ (mem_row z)
    have lt := K.lt _ (mem_row z)
    generalize row (kern (lrows f d) (d + 1)) 0 = g at kl nz
    have fp : (fc n : Int) ≠ 0 := by
      have := fc_pos n
      omega
    have ev0 : ∀ i, i < k → evF (d + 1) g (u i) (v i) = 0 := fun i hi => by
      have := pw_ind k (n - d) u v (fun i => c i * evF (d + 1) g (u i) (v i)) hne hn (by omega) (fun a ha => by
        have e := kl a (by rw [h.len]; omega)
        rw [h.kl (by omega) ha] at e
        exact (Int.mul_eq_zero.mp e).resolve_left fp) i hi
      exact (Int.mul_eq_zero.mp this).resolve_left (hc i hi)
    exact nz (roots_zero (k := d) (u := u) (v := v) (fun i j hi hj => hne i j (by omega) (by omega)) (fun i hi => hn i (by omega)) (fun i hi => ev0 i (by omega)) _ lt)
theorem evF_ev {l : List Int} {d : Nat} (h : l.length = d + 1) (x y : Int) : evF (d + 1) (co l) x y = ev l x y := by
  unfold ev
  rw [h]
/-- the one killer -/
theorem PS.one {f L : List Int} {n k : Nat} {c u v : Nat → Int} (h : PS f n k c u v) (k1 : 1 ≤ k) (hk : 2 * k ≤ n + 1) (hc : ∀ i, i < k → c i ≠ 0) (hne : ∀ i j, i < k → j < k → i ≠ j → u i * v j - v i * u j ≠ 0) (hn : ∀ i, i < k → u i ≠ 0 ∨ v i ≠ 0)
    (hL : L.length = k + 1) (hz : ∀ i, i < k → ev L (u i) (v i) = 0) (hl : ∃ j, co L j ≠ 0) : kern (lrows f k) (k + 1) = [primE L] := by
  have kL : Kl f k (co L) := h.kl_of (by omega) fun i hi => by rw [evF_ev hL]; exact hz i hi
  have sp := kl_sp kL
  have low : ∀ d, d < k → kd f d = 0 := fun d hd => h.kd_low hd hk hc hne hn
  have fl := h.len
  -- the form is not zero, the least degree is k
  have pos : 0 < kd f k := by
    rcases Nat.eq_zero_or_pos (kd f k) with z | z
    · exfalso
      obtain ⟨j, hj⟩ := hl
      have jl : j < k + 1 := Classical.byContradiction fun q => hj (co_far (by omega))
      exact hj (Spm_z z _ sp j jl)
    · exact z
  have nzf : ∃ j, j < f.length ∧ co f j ≠ 0 := Classical.byContradiction fun q => by
    have z : ∀ j, co f j = 0 := fun j => by
      by_cases c : j < f.length
      · exact Classical.byContradiction fun w => q ⟨j, c, w⟩
      · exact co_far (by omega)
    have e := rk_zero z 0
    have e2 := rk_kd f 0
    have e3 := low 0 (by omega)
    omega
  obtain ⟨r, r1, r2, lo, hi, up, pr⟩ := profile (by omega) nzf
  have rk1 : r = k := by
    have a1 : ¬ r < k := fun q => by
      have := low r q
      omega
    have a2 : ¬ k < r := fun q => by
      have := lo k q
      omega
    omega
  subst rk1
  have p := pr r (by omega)
  have rk2 := rk_kd f r
  have one : (kern (lrows f r) (r + 1)).length = 1 := by
    have e : kd f r = 1 := by omega
    exact e
  obtain ⟨K, eK⟩ : ∃ K, kern (lrows f r) (r + 1) = [K] := by
    match hm : kern (lrows f r) (r + 1), one with
    | [K], _ => exact ⟨K, rfl⟩
  have Ks := ks (lrows_w (l := f) (d := r))
  have Kl1 := Ks.len K (by rw [eK]; exact List.mem_singleton.mpr rfl)
  have prim : primE K = K := by
    have hm : K ∈ kern (lrows f r) (r + 1) := by rw [eK]; exact List.mem_singleton.mpr rfl
    obtain ⟨z, _, e⟩ := List.mem_map.mp hm
    rw [← e]
    refine prim_pq (w := (primE z).length) ⟨rfl, (primE_len z).symm, pf z, 1, pf_ne z, by decide, fun j => ?_⟩
    rw [prim_ex, Int.one_mul]
  rw [eK]
  congr 1
  rw [← prim]
  obtain ⟨cc, hcc, a, ha⟩ := sp
  have e1 : ∀ j, cc * co L j = a 0 * co K j := fun j => by
    by_cases hj : j < r + 1
    · have := ha j hj
      have e2 : kd f r = 1 := one
      rw [e2] at this
      rw [this]
      show 0 + a 0 * co ((kern (lrows f r) (r + 1)).getD 0 []) j = _
      rw [eK, Int.zero_add]
      rfl
    · rw [co_far (by omega), co_far (by omega), Int.mul_zero, Int.mul_zero]
  refine (prim_pq (w := r + 1) ⟨hL, Kl1, cc, a 0, hcc, fun z => ?_, e1⟩).symm
  obtain ⟨j, hj⟩ := hl
  have := e1 j
  rw [z, Int.zero_mul] at this
  exact (Int.mul_eq_zero.mp this).elim hcc hj
end K65

set_option Elab.async false
set_option linter.all false
set_option maxRecDepth 100000
set_option maxHeartbeats 2000000
set_option exponentiation.threshold 10000
/-! sums of few powers: sizes, the rank with the product of the lines -/
namespace K65
open PySem PySem.Spec PyProof.Rows L2 FDivQ LA
theorem PS.congr {f : List Int} {n k : Nat} {c c' u v : Nat → Int} (h : PS f n k c u v) (e : ∀ i, i < k → c i = c' i) : PS f n k c' u v := ⟨h.len, fun j hj => by
  rw [h.lev j hj, S_congr fun i hi => by rw [e i hi]]⟩
end K65

set_option Elab.async false
set_option linter.all false
set_option maxRecDepth 100000
set_option maxHeartbeats 2000000
set_option exponentiation.threshold 10000
/-! a span has one echelon only; sizes of the rows of a kernel -/
namespace K65
open PySem PySem.Spec PyProof.Rows L2 FDivQ LA
theorem inv2 {le : List Int → List Int → Nat → List Int} (hle : LeP le) {w : Nat} {rows : List (List Int)} (hw : ∀ r ∈ rows, r.length = w) : ∀ p, p ≤ w → ∃ Hh P, Inv w rows p (eS le rows p).1 (eS le rows p).2 Hh P ∧ P.Pairwise (· < ·)
  | 0, _ => ⟨[], [], Inv.init hw, List.Pairwise.nil⟩
  | p + 1, hp => by
    obtain ⟨Hh, P, I, sP⟩ := inv2 hle hw p (by omega)
    show ∃ Hh P, Inv w rows (p + 1) (stp le p (eS le rows p)).1 (stp le p (eS le rows p)).2 Hh P ∧ _
    cases e : hix (eS le rows p).1 p with
    | none =>
      rw [stp_none e]
      exact ⟨Hh, P, I.none e, sP⟩
    | some h =>
      rw [stp_some e]
      obtain ⟨x, J⟩ := I.some hle (by omega) e
      refine ⟨_, _, J, List.pairwise_append.mpr ⟨sP, List.pairwise_singleton _ _, fun a ha b hb => ?_⟩⟩
      obtain ⟨k, hk, rfl⟩ := List.mem_iff_getElem.mp ha
      rw [List.mem_singleton.mp hb]
      have := I.pp k (by rw [← I.pl]; exact hk)
      rwa [List.getD_eq_getElem?_getD, List.getElem?_eq_getElem hk] at this
/-- an echelon as it is told: leads go up, each is alone in its column, no row has a common divisor -/
structure RE (w : Nat) (T : List (List Int)) : Prop where
  len : ∀ t ∈ T, t.length = w
  lt : ∀ t ∈ T, ld t < w
  nz : ∀ t ∈ T, co t (ld t) ≠ 0
  be : ∀ t ∈ T, ∀ j, j < ld t → co t j = 0
  z : ∀ i k, i < T.length → k < T.length → k ≠ i → row T k (ld (T.getD i [])) = 0
  so : (T.map ld).Pairwise (· < ·)
  pr : ∀ t ∈ T, primE t = t
theorem primE_idem (z : List Int) : primE (primE z) = primE z := by
  refine prim_pq (w := (primE z).length) ⟨rfl, (primE_len z).symm, pf z, 1, pf_ne z, by decide, fun j => ?_⟩
  rw [prim_ex, Int.one_mul]
theorem re_ech {le : List Int → List Int → Nat → List Int} (hle : LeP le) {w : Nat} {rows : List (List Int)} (hw : ∀ r ∈ rows, r.length = w) : RE w (ech le rows w) := by
  have hT := told hle (M := nm rows.flatten) hw fun r hr x hx => nm_mem (List.mem_flatten.mpr ⟨r, hr, hx⟩)
  refine ⟨hT.len, hT.lt, hT.nz, fun t ht j hj => (fo_ld ⟨_, hT.nz t ht⟩).2.2 j hj, hT.z, ?_, fun t ht => ?_⟩
  · obtain ⟨Hh, P, I, sP⟩ := inv2 hle hw w (Nat.le_refl _)
    unfold ech
    generalize (eS le rows w).1 = left at I
    generalize (eS le rows w).2 = found at I
    have hz : ∀ (r : List Int) (j : Nat), co (primE r) j = 0 ↔ co r j = 0 := fun r j => by
      have := prim_ex r j
      constructor <;> intro z <;> rw [z] at this
      · rw [Int.mul_zero] at this
        exact this.symm
      · exact (Int.mul_eq_zero.mp this).resolve_left (pf_ne r)
    have e : (found.map primE).map ld = P := by
      refine List.ext_getElem (by rw [List.length_map, List.length_map, I.pl]) fun k h1 h2 => ?_
      rw [List.length_map, List.length_map] at h1
      rw [List.getElem_map, List.getElem_map]
      have a1 := I.nz k h1
      have a2 := I.be k h1
      have e1 : found.getD k [] = found[k] := by rw [List.getD_eq_getElem?_getD, List.getElem?_eq_getElem h1]; rfl
      have e2 : P.getD k 0 = P[k] := by rw [List.getD_eq_getElem?_getD, List.getElem?_eq_getElem h2]; rfl
      unfold row at a1 a2
      rw [e1, e2] at a1
      rw [e1, e2] at a2
      exact ld_char (fun z => a1 ((hz _ _).mp z)) fun j hj => (hz _ _).mpr (a2 j hj)
    rw [e]
    exact sP
  · obtain ⟨z, _, rfl⟩ := List.mem_map.mp ht
    exact primE_idem z
theorem sorted_ext : ∀ {A B : List Nat}, A.Pairwise (· < ·) → B.Pairwise (· < ·) → (∀ x, x ∈ A ↔ x ∈ B) → A = B
  | [], [], _, _, _ => rfl
  | [], b :: bs, _, _, h => absurd ((h b).mpr List.mem_cons_self) List.not_mem_nil
  | a :: as, [], _, _, h => absurd ((h a).mp List.mem_cons_self) List.not_mem_nil
  | a :: as, b :: bs, hA, hB, h => by
    obtain ⟨a1, a2⟩ := List.pairwise_cons.mp hA
    obtain ⟨b1, b2⟩ := List.pairwise_cons.mp hB
    have e : a = b := by
      rcases List.mem_cons.mp ((h a).mp List.mem_cons_self) with q | q
      · exact q
      · rcases List.mem_cons.mp ((h b).mpr List.mem_cons_self) with r | r
        · exact r.symm
        · have := a1 b r
          have := b1 a q
          omega
    subst e
    rw [sorted_ext a2 b2 fun x => ⟨fun hx => ?_, fun hx => ?_⟩]
    · rcases List.mem_cons.mp ((h x).mp (List.mem_cons_of_mem _ hx)) with q | q
      · have := a1 x hx
        omega
      · exact q
    · rcases List.mem_cons.mp ((h x).mpr (List.mem_cons_of_mem _ hx)) with q | q
      · have := b1 x hx
        omega
      · exact q
theorem RE.at_lead {w : Nat} {T : List (List Int)} (h : RE w T) {c : Int} {v a : Nat → Int} (e : ∀ j, j < w → c * v j = S T.length (fun k => a k * row T k j)) {i : Nat} (hi : i < T.length) : c * v (ld (T.getD i [])) = a i * row T i (ld (T.getD i [])) := by
  rw [e _ (h.lt _ (mem_row hi)), S_one hi fun k hk hne => by rw [h.z i k hi hk hne, Int.mul_zero]]
theorem RE.lead {w : Nat} {T : List (List Int)} (h : RE w T) {t : List Int} (hl : ld t < w) (nz : co t (ld t) ≠ 0) (be : ∀ j, j < ld t → co t j = 0) (s : SpM w T t) : ld t ∈ T.map ld := by
  obtain ⟨c, hc, a, ha⟩ := s
  refine Classical.byContradiction fun no => ?_
  have e := ha (ld t) hl
  rw [S_zero fun k hk => ?_] at e
  · exact (Int.mul_eq_zero.mp e).elim hc nz
  · have ne : ld (T.getD k []) ≠ ld t := fun z => no (List.mem_map.mpr ⟨_, mem_row hk, z⟩)
    by_cases q : ld t < ld (T.getD k [])
    · rw [show row T k (ld t) = 0 from h.be _ (mem_row hk) _ q, Int.mul_zero]
    · have e1 := h.at_lead ha hk
      rw [be _ (by omega), Int.mul_zero] at e1
      rw [(Int.mul_eq_zero.mp e1.symm).resolve_right (h.nz _ (mem_row hk)), Int.zero_mul]
theorem re_uniq {w : Nat} {A B : List (List Int)} (hA : RE w A) (hB : RE w B) (s1 : ∀ t ∈ A, SpM w B t) (s2 : ∀ t ∈ B, SpM w A t) : A = B := by
  have el : A.map ld = B.map ld := sorted_ext hA.so hB.so fun x => ⟨fun hx => by
    obtain ⟨t, ht, rfl⟩ := List.mem_map.mp hx
    exact hB.lead (hA.lt t ht) (hA.nz t ht) (hA.be t ht) (s1 t ht), fun hx => by
    obtain ⟨t, ht, rfl⟩ := List.mem_map.mp hx
    exact hA.lead (hB.lt t ht) (hB.nz t ht) (hB.be t ht) (s2 t ht)⟩
  have ll : A.length = B.length := by
    have := congrArg List.length el
    rwa [List.length_map, List.length_map] at this
  have lk : ∀ k, k < A.length → ld (A.getD k []) = ld (B.getD k []) := fun k hk => by
    have e : (A.map ld)[k]'(by rw [List.length_map]; exact hk) = (B.map ld)[k]'(by rw [List.length_map]; omega) := by
      congr 1
    rw [List.getElem_map, List.getElem_map] at e
    rw [List.getD_eq_getElem?_getD, List.getElem?_eq_getElem hk, List.getD_eq_getElem?_getD, List.getElem?_eq_getElem (show k < B.length by omega)]
    exact e
  refine List.ext_getElem ll fun i h1 h2 => ?_
  have eA : A.getD i [] = A[i] := by rw [List.getD_eq_getElem?_getD, List.getElem?_eq_getElem h1]; rfl
  have eB : B.getD i [] = B[i] := by rw [List.getD_eq_getElem?_getD, List.getElem?_eq_getElem h2]; rfl
  have mA := mem_row h1
  have mB := mem_row h2
  obtain ⟨c, hc, a, ha⟩ := s2 _ mB
  have az : ∀ k, k < A.length → k ≠ i → a k = 0 := fun k hk hne => by
    have e1 := hA.at_lead ha hk
    rw [lk k hk, show co (B.getD i []) (ld (B.getD k [])) = 0 from hB.z k i (by omega) h2 (Ne.symm hne), Int.mul_zero, ← lk k hk] at e1
    exact (Int.mul_eq_zero.mp e1.symm).resolve_right (hA.nz _ (mem_row hk))
  have e2 : ∀ j, c * co (B.getD i []) j = a i * co (A.getD i []) j := fun j => by
    by_cases hj : j < w
    · rw [ha j hj, S_one h1 fun k hk hne => by rw [az k hk hne, Int.zero_mul]]
    · rw [co_far (by rw [hB.len _ mB]; omega), co_far (by rw [hA.len _ mA]; omega), Int.mul_zero, Int.mul_zero]
  have ai : a i ≠ 0 := fun z => by
    have := e2 (ld (B.getD i []))
    rw [z, Int.zero_mul] at this
    exact (Int.mul_eq_zero.mp this).elim hc (hB.nz _ mB)
  have p := prim_pq (w := w) ⟨hB.len _ mB, hA.len _ mA, c, a i, hc, ai, e2⟩
  rw [hA.pr _ mA, hB.pr _ mB, eA, eB] at p
  exact p.symm
/-- rows with one span have one echelon -/
theorem ech_same {le le' : List Int → List Int → Nat → List Int} (hle : LeP le) (hle' : LeP le') {w : Nat} {A B : List (List Int)} (hA : ∀ r ∈ A, r.length = w) (hB : ∀ r ∈ B, r.length = w) (s1 : ∀ t ∈ A, SpM w B t) (s2 : ∀ t ∈ B, SpM w A t) : ech le A w = ech le' B w := by
  have tA := told hle (M := nm A.flatten) hA fun r hr x hx => nm_mem (List.mem_flatten.mpr ⟨r, hr, hx⟩)
  have tB := told hle' (M := nm B.flatten) hB fun r hr x hx => nm_mem (List.mem_flatten.mpr ⟨r, hr, hx⟩)
  have to : ∀ {C D : List (List Int)}, Base w C.length (row C) D.length (row D) → ∀ t ∈ C, SpM w D t := fun {C D} b t ht => by
    obtain ⟨k, hk, e⟩ := row_mem ht
    have := b.to k hk
    rw [e] at this
    exact this
  have of : ∀ {C D : List (List Int)}, Base w C.length (row C) D.length (row D) → ∀ t ∈ D, SpM w C t := fun {C D} b t ht => by
    obtain ⟨k, hk, e⟩ := row_mem ht
    have := b.of k hk
    rw [e] at this
    exact this
  exact re_uniq (re_ech hle hA) (re_ech hle' hB) (fun t ht => ((of tA.base t ht).trans s1).trans (to tB.base)) fun t ht => ((of tB.base t ht).trans s2).trans (to tA.base)
theorem kvs_w {rows : List (List Int)} {w : Nat} : ∀ r ∈ kvs rows w, r.length = w := fun r hr => by
  obtain ⟨f, _, rfl⟩ := List.mem_map.mp hr
  exact kone_len _ _ _
theorem re_kern (rows : List (List Int)) (w : Nat) : RE w (kern rows w) := re_ech lePP kvs_w
/-- the rows of a kernel are small: each is the only one, up to a factor, that is 0 at the leads of the others -/
theorem kern_bd {rows : List (List Int)} {w M : Nat} (hw : ∀ r ∈ rows, r.length = w) (hM : ∀ r ∈ rows, ∀ x ∈ r, x.natAbs ≤ M) : ∀ k ∈ kern rows w, ∀ j, (co k j).natAbs ≤ (2 * ((ech less rows w).length + 1) * M + 1) ^ (ech less rows w).length := by
  have K := ks hw
  have R := re_kern rows w
  obtain ⟨Hh, hHl, hHm, hHs⟩ := told_heads lePP hw
  have hT := told lePP (M := M) hw hM
  intro k hk j
  obtain ⟨i0, hi0, e0⟩ := List.mem_iff_getElem.mp hk
  have cnt := K.cnt
  have kL := K.len
  have kG := K.gl
  have kA := K.all
  clear K
  have e9 : (kern rows w)[i0]? = some k := by rw [List.getElem?_eq_getElem hi0, e0]
  clear e0
  generalize hr : (ech less rows w).length = r at cnt hHl ⊢
  generalize hU : kern rows w = U at kL kG kA R cnt hk hi0 e9
  have sub : ∀ t ∈ U.eraseIdx i0, t ∈ U := fun t ht => List.mem_of_mem_eraseIdx ht
  have nd : (U.map ld).Nodup := R.so.imp fun h => Nat.ne_of_lt h
  have nd2 : ((U.eraseIdx i0).map ld).Nodup := nd.sublist ((List.eraseIdx_sublist U i0).map ld)
  have fc := frees_cnt (T := U.eraseIdx i0) (w := w) (fun t ht => R.lt t (sub t ht)) nd2
  have e1 : (U.eraseIdx i0).length + 1 = U.length := by
    rw [List.length_eraseIdx_of_lt hi0]
    omega
  have cf : (frees (U.eraseIdx i0) w).length = r + 1 := by omega
  have ndf : (frees (U.eraseIdx i0) w).Nodup := List.nodup_range.filter _
  generalize hF : frees (U.eraseIdx i0) w = F at cf ndf fc
  have cw : ∀ i, i < r + 1 → F.getD i 0 ∈ F ∧ F.getD i 0 < w := fun i hi => by
    have m : F.getD i 0 ∈ F := by
      rw [List.getD_eq_getElem?_getD, List.getElem?_eq_getElem (show i < F.length by omega)]
      exact List.getElem_mem _
    exact ⟨m, by
      rw [← hF] at m
      rw [← hF]
      exact frees_lt m⟩
  have cinj : ∀ i i', i < r + 1 → i' < r + 1 → F.getD i 0 = F.getD i' 0 → i = i' := fun i i' hi hi' e => by
    rw [List.getD_eq_getElem?_getD, List.getElem?_eq_getElem (show i < F.length by omega), List.getD_eq_getElem?_getD, List.getElem?_eq_getElem (show i' < F.length by omega)] at e
    exact (List.getElem_inj ndf).mp e
  obtain ⟨y, ⟨i1, hi1, hy1⟩, yb, hy⟩ := siegel r M (fun i j => row Hh j (F.getD i 0)) fun i hi j hj => co_bd hM (hHm _ (mem_row (by omega))) _
  let u : Nat → Int := fun p => S (r + 1) fun i => if F.getD i 0 = p then y i else 0
  have uin : ∀ i, i < r + 1 → u (F.getD i 0) = y i := fun i hi => by
    show S (r + 1) (fun i' => if F.getD i' 0 = F.getD i 0 then y i' else 0) = y i
    rw [S_one hi fun i' hi' hne => by rw [if_neg fun z => hne (cinj i' i hi' hi z)], if_pos rfl]
  have uout : ∀ p, p ∉ F → u p = 0 := fun p hp => S_zero fun i hi => by
    rw [if_neg]
    intro z
    exact hp (by rw [← z]; exact (cw i hi).1)
  have uh : ∀ h : Nat → Int, S w (fun p => u p * h p) = S (r + 1) (fun i => y i * h (F.getD i 0)) := fun h => by
    have e : S w (fun p => u p * h p) = S w (fun p => S (r + 1) fun i => (if F.getD i 0 = p then y i else 0) * h p) := S_congr fun p _ => by
      rw [S_mulr]
    rw [e, S_swap]
    refine S_congr fun i hi => ?_
    rw [S_one (p := F.getD i 0) (cw i hi).2 fun p _ hne => by rw [if_neg (Ne.symm hne), Int.zero_mul], if_pos rfl]
  have perp : ∀ x ∈ rows, S w (fun p => u p * co x p) = 0 := fun x hx => by
    obtain ⟨b, hb, eb⟩ := row_mem hx
    have s2 := hT.base.to b hb
    rw [eb] at s2
    have s3 : SpM w Hh x := SpM.trans (B := ech less rows w) s2 hHs
    refine Sp.perp s3 fun c hc => ?_
    rw [uh]
    exact hy c (by omega)
  obtain ⟨c, hc, a, ha⟩ := kA u perp
  have az : ∀ i, i < U.length → i ≠ i0 → a i = 0 := fun i hi hne => by
    have e2 := R.at_lead ha hi
    rw [uout _ fun hm => ?_, Int.mul_zero] at e2
    · exact (Int.mul_eq_zero.mp e2.symm).resolve_right (R.nz _ (mem_row hi))
    · rw [← hF] at hm
      refine (mem_frees.mp hm).2 (U.getD i []) ?_ rfl
      rw [List.getD_eq_getElem?_getD, List.getElem?_eq_getElem hi]
      exact List.mem_eraseIdx_iff_getElem.mpr ⟨i, hi, hne, rfl⟩
  have e3 : ∀ j, j < w → c * u j = a i0 * co k j := fun j hj => by
    rw [ha j hj, S_one hi0 fun i hi hne => by rw [az i hi hne, Int.zero_mul]]
    congr 1
    unfold row
    rw [List.getD_eq_getElem?_getD, e9]
    rfl
  have a0 : a i0 ≠ 0 := fun z => by
    have := e3 _ (cw i1 hi1).2
    rw [z, Int.zero_mul, uin i1 hi1] at this
    exact (Int.mul_eq_zero.mp this).elim hc hy1
  by_cases hj : j < w
  · refine Nat.le_trans (red_le (u := u) (kG k hk) (kL k hk) a0 (fun j hj => (e3 j hj).symm) j hj) ?_
    by_cases m : j ∈ F
    · obtain ⟨i, hi, e⟩ := List.mem_iff_getElem.mp m
      have e4 : F.getD i 0 = j := by rw [List.getD_eq_getElem?_getD, List.getElem?_eq_getElem hi, e]; rfl
      rw [← e4, uin i (by omega)]
      exact yb i
    · rw [uout j m]
      exact Nat.zero_le _
  · rw [co_far (by rw [kL k hk]; omega)]
    exact Nat.zero_le _
end K65

set_option Elab.async false
set_option linter.all false
set_option maxRecDepth 100000
set_option maxHeartbeats 2000000
set_option exponentiation.threshold 10000
/-! killers of a changed form -/
namespace K65
open PySem PySem.Spec PyProof.Rows L2 FDivQ LA
section
variable {X Y : List Int} (hX : X.length = 2) (hY : Y.length = 2)
include hX hY
end
theorem kl_act {g l : List Int} {d : Nat} (hg : g.length = d + 1) (hd : d < l.length) : Kl l d (co g) ↔ ∀ k, co (act g l) k = 0 := by
  have al := act_len g l
  have e : ∀ k, k < l.length - d → co (lev (act g l)) k = S (d + 1) fun a => co g a * co (lev l) (k + a) := fun k hk => by
    rw [lev_act (by omega) (by omega) (by rw [hg]; exact hk), hg]
  have al : (act g l).length = l.length - d := by rw [al, hg]; rfl
  constructor
  · intro h k
    by_cases c : k < (act g l).length
    · exact lev_zero.mp (fun i hi => by rw [e i (by omega)]; exact h i (by omega)) k c
    · exact co_far (by omega)
  · intro h i hi
    rw [← e i hi]
    exact lev_zero.mpr (fun k _ => h k) i (by omega)
theorem ne_len {g : List Int} {d : Nat} (h : g.length = d + 1) : g ≠ [] := fun z => by rw [z] at h; cases h
section
variable {X Y : List Int} {w : Nat} {B : List (List Int)} (hX : X.length = 2) (hY : Y.length = 2) (hw : 1 ≤ w) (hB : ∀ b ∈ B, b.length = w)
include hX hY hw hB
end
section
variable {a b c e : Int} {l : List Int} (hd : a * e - b * c ≠ 0) (nl : l ≠ [])
include hd nl
end
end K65

set_option Elab.async false
set_option linter.all false
set_option maxRecDepth 100000
set_option maxHeartbeats 2000000
set_option exponentiation.threshold 20000
/-! two forms and their products with all x ^ i y ^ j of a degree -/
namespace K65
open PySem PySem.Spec PyProof.Rows L2 FDivQ LA
/-- x^(m - i) y^i times a form of degree d, by entries -/
def shi (d : Nat) (g : Nat → Int) (i : Nat) : Nat → Int := fun j => if i ≤ j ∧ j - i ≤ d then g (j - i) else 0
theorem shifts_ind {g : Nat → Int} {d m p : Nat} (hp : p ≤ d) (h0 : g p ≠ 0) (hl : ∀ j, j < p → g j = 0) : Ind (d + m + 1) (m + 1) (shi d g) := fun a ha i hi => Classical.byContradiction fun ne => by
  obtain ⟨i0, ⟨hi0, n0⟩, lo⟩ := leastE (p := fun i => i < m + 1 ∧ a i ≠ 0) i ⟨hi, ne⟩
  have e := ha (i0 + p) (by omega)
  rw [S_one (p := i0) hi0 fun k hk hne => ?_] at e
  · rw [show shi d g i0 (i0 + p) = g p by
      unfold shi
      rw [if_pos ⟨by omega, by omega⟩, Nat.add_sub_cancel_left]] at e
    exact (Int.mul_eq_zero.mp e).elim n0 h0
  · by_cases c : k < i0
    · have := lo k c
      have ak : a k = 0 := Classical.byContradiction fun q => this ⟨hk, q⟩
      rw [ak, Int.zero_mul]
    · have z : shi d g k (i0 + p) = 0 := by
        unfold shi
        split
        · exact hl _ (by omega)
        · rfl
      rw [z, Int.mul_zero]
/-- a sum over a row that begins and ends with zeros -/
theorem S_shi {g f : Nat → Int} {d i : Nat} : ∀ {N : Nat}, d + i + 1 ≤ N → S N (fun j => shi d g i j * f j) = S (d + 1) (fun b => g b * f (i + b)) := by
  have base : ∀ n, n ≤ d + 1 → S (i + n) (fun j => shi d g i j * f j) = S n (fun b => g b * f (i + b)) := fun n => by
    induction n with
    | zero =>
      intro _
      exact S_zero fun j hj => by
        unfold shi
        rw [if_neg (by omega), Int.zero_mul]
    | succ n ih =>
      intro hn
      show S (i + n) _ + shi d g i (i + n) * f (i + n) = S n _ + g n * f (i + n)
      rw [ih (by omega)]
      congr 2
      unfold shi
      rw [if_pos ⟨by omega, by omega⟩, Nat.add_sub_cancel_left]
  intro N hN
  rw [S_ext (n := i + (d + 1)) (by omega) fun j hj => by
    unfold shi
    rw [if_neg (by omega), Int.zero_mul]]
  exact base _ (Nat.le_refl _)
theorem kl_shi {l : List Int} {d m i : Nat} {g : Nat → Int} (h : Kl l d g) (hi : i ≤ m) : Kl l (d + m) (shi d g i) := fun a ha => by
  rw [S_shi (by omega), ← h (a + i) (by omega)]
  exact S_congr fun b _ => by rw [Nat.add_assoc]
/-! ### rows -/
/-- the products of a form and all x ^ i y ^ j, of a degree -/
def shf (g : List Int) (d : Nat) : List (List Int) := (List.range (d + 2 - g.length)).map fun i => List.replicate i 0 ++ g ++ List.replicate (d + 1 - g.length - i) 0
theorem shf_len (g : List Int) (d : Nat) : (shf g d).length = d + 2 - g.length := by
  unfold shf
  rw [List.length_map, List.length_range]
theorem shf_w {g : List Int} {d : Nat} : ∀ r ∈ shf g d, r.length = d + 1 := fun r hr => by
  obtain ⟨i, hi, rfl⟩ := List.mem_map.mp hr
  have := List.mem_range.mp hi
  rw [List.length_append, List.length_append, List.length_replicate, List.length_replicate]
  omega
theorem co_app (l m : List Int) (j : Nat) : co (l ++ m) j = if j < l.length then co l j else co m (j - l.length) := by
  by_cases c : j < l.length
  · rw [if_pos c, co_get (by rw [List.length_append]; omega), co_get c, List.getElem_append_left c]
  · rw [if_neg c]
    by_cases d : j < (l ++ m).length
    · rw [List.length_append] at d
      rw [co_get (by rw [List.length_append]; omega), co_get (show j - l.length < m.length by omega), List.getElem_append_right (by omega)]
    · rw [List.length_append] at d
      rw [co_far (by rw [List.length_append]; omega), co_far (by omega)]
theorem co_z (n k : Nat) : co (List.replicate n (0 : Int)) k = 0 := by
  by_cases c : k < (List.replicate n (0 : Int)).length
  · rw [co_get c, List.getElem_replicate]
  · exact co_far (by omega)
theorem co_shrow {g : List Int} {i n : Nat} (hg : 1 ≤ g.length) (j : Nat) : co (List.replicate i 0 ++ g ++ List.replicate n 0) j = shi (g.length - 1) (co g) i j := by
  rw [co_app, co_app, List.length_append, List.length_replicate, co_z, co_z]
  unfold shi
  by_cases c : i ≤ j
  · by_cases e : j - i ≤ g.length - 1
    · rw [if_pos (by omega), if_neg (by omega), if_pos ⟨c, e⟩]
    · rw [if_neg (by omega), if_neg (fun z => e z.2)]
  · rw [if_pos (by omega), if_pos (by omega), if_neg (fun z => c z.1)]
theorem row_shf {g : List Int} {d i : Nat} (hg : 1 ≤ g.length) (hi : i < d + 2 - g.length) : row (shf g d) i = shi (g.length - 1) (co g) i := by
  funext j
  unfold row shf
  rw [List.getD_eq_getElem?_getD, List.getElem?_map, List.getElem?_range hi]
  exact co_shrow hg j
def urows (f g : List Int) (d : Nat) : List (List Int) := shf f d ++ shf g d
theorem urows_w {f g : List Int} {d : Nat} : ∀ r ∈ urows f g d, r.length = d + 1 := fun r hr => (List.mem_append.mp hr).elim (shf_w r) (shf_w r)
theorem urows_len (f g : List Int) (d : Nat) : (urows f g d).length = (d + 2 - f.length) + (d + 2 - g.length) := by
  unfold urows
  rw [List.length_append, shf_len, shf_len]
theorem shf_mem {M : Nat} {g : List Int} {d : Nat} (h : ∀ x ∈ g, x.natAbs ≤ M) : ∀ r ∈ shf g d, ∀ x ∈ r, x.natAbs ≤ M := fun r hr x hx => by
  obtain ⟨i, _, rfl⟩ := List.mem_map.mp hr
  rcases List.mem_append.mp hx with q | q
  · rcases List.mem_append.mp q with q | q
    · rw [List.eq_of_mem_replicate q]
      exact Nat.zero_le _
    · exact h x q
  · rw [List.eq_of_mem_replicate q]
    exact Nat.zero_le _
theorem urows_mem {M : Nat} {f g : List Int} {d : Nat} (hf : ∀ x ∈ f, x.natAbs ≤ M) (hg : ∀ x ∈ g, x.natAbs ≤ M) : ∀ r ∈ urows f g d, ∀ x ∈ r, x.natAbs ≤ M := fun r hr => (List.mem_append.mp hr).elim (shf_mem hf r) (shf_mem hg r)
theorem row_urows {f g : List Int} {d i : Nat} (hf : 1 ≤ f.length) (hg : 1 ≤ g.length) (hi : i < (d + 2 - f.length) + (d + 2 - g.length)) : row (urows f g d) i = if i < d + 2 - f.length then shi (f.length - 1) (co f) i else shi (g.length - 1) (co g) (i - (d + 2 - f.length)) := by
  unfold urows row
  rw [List.getD_eq_getElem?_getD]
  by_cases c : i < d + 2 - f.length
  · rw [if_pos c, List.getElem?_append_left (by rw [shf_len]; exact c), ← row_shf hf c]
    unfold row
    rw [List.getD_eq_getElem?_getD]
  · rw [if_neg c, List.getElem?_append_right (by rw [shf_len]; omega), shf_len, ← row_shf (d := d) hg (by omega)]
    unfold row
    rw [List.getD_eq_getElem?_getD]
/-- rows that are as many as their rank are independent -/
theorem ind_full {le : List Int → List Int → Nat → List Int} (hle : LeP le) {w : Nat} {A : List (List Int)} (hA : ∀ r ∈ A, r.length = w) (h : (ech le A w).length = A.length) : Ind w A.length (row A) := by
  have hT := told hle (M := nm A.flatten) hA fun r hr x hx => nm_mem (List.mem_flatten.mpr ⟨r, hr, hx⟩)
  have b := hT.base
  rw [h] at b
  exact ind_of b.ind b.of
theorem full_ind {le : List Int → List Int → Nat → List Int} (hle : LeP le) {w : Nat} {A : List (List Int)} (hA : ∀ r ∈ A, r.length = w) (h : Ind w A.length (row A)) : (ech le A w).length = A.length := by
  have hT := told hle (M := nm A.flatten) hA fun r hr x hx => nm_mem (List.mem_flatten.mpr ⟨r, hr, hx⟩)
  exact hT.base.ind_all h
/-- one degree less -/
theorem ind_less {f g : List Int} {d : Nat} (hf : 1 ≤ f.length) (hg : 1 ≤ g.length) (lf : f.length ≤ d + 2) (lg : g.length ≤ d + 2) (h : Ind (d + 2) (urows f g (d + 1)).length (row (urows f g (d + 1)))) : Ind (d + 1) (urows f g d).length (row (urows f g d)) := fun a ha => by
  rw [urows_len] at h ha ⊢
  obtain ⟨p, ep⟩ : ∃ p, d + 2 - f.length = p := ⟨_, rfl⟩
  obtain ⟨q, eq⟩ : ∃ q, d + 2 - g.length = q := ⟨_, rfl⟩
  have ep' : d + 1 + 2 - f.length = p + 1 := by omega
  have eq' : d + 1 + 2 - g.length = q + 1 := by omega
  rw [ep', eq'] at h
  rw [ep, eq] at ha ⊢
  have split : ∀ (m n : Nat) (F : Nat → Int), S (m + n) F = S m F + S n fun i => F (m + i) := fun m n F => by
    induction n with
    | zero => exact (Int.add_zero _).symm
    | succ n ih =>
      show S (m + n) F + F (m + n) = S m F + (S n (fun i => F (m + i)) + F (m + n))
      rw [ih]
      omega
  have key : ∀ j, j < d + 1 → S p (fun i => a i * shi (f.length - 1) (co f) i j) + S q (fun i => a (p + i) * shi (g.length - 1) (co g) i j) = 0 := fun j hj => by
    have := ha j hj
    rw [split] at this
    rw [← this]
    congr 1
    · exact S_congr fun i hi => by rw [row_urows hf hg (by omega), ep, if_pos hi]
    · exact S_congr fun i hi => by rw [row_urows hf hg (by omega), ep, if_neg (by omega), Nat.add_sub_cancel_left]
  have z := h (fun i => if i < p then a i else if i < p + 1 then 0 else if i < p + 1 + q then a (i - 1) else 0) fun j hj => by
    rw [split, S_congr (n := p + 1) (g := fun i => (if i < p then a i else 0) * shi (f.length - 1) (co f) i j) fun i hi => ?_, S_congr (n := q + 1) (g := fun i => (if i < q then a (p + i) else 0) * shi (g.length - 1) (co g) i j) fun i hi => ?_]
    · show (S p _ + (if p < p then a p else 0) * _) + (S q _ + (if q < q then a (p + q) else 0) * _) = 0
      rw [if_neg (Nat.lt_irrefl _), if_neg (Nat.lt_irrefl _), Int.zero_mul, Int.zero_mul, Int.add_zero, Int.add_zero, S_congr (n := p) (g := fun i => a i * shi (f.length - 1) (co f) i j) fun i hi => by rw [if_pos hi], S_congr (n := q) (g := fun i => a (p + i) * shi (g.length - 1) (co g) i j) fun i hi => by rw [if_pos hi]]
      by_cases c : j < d + 1
      · exact key j c
      · rw [S_zero fun i hi => ?_, S_zero fun i hi => ?_]
        · rfl
        · unfold shi
          rw [if_neg (by omega), Int.mul_zero]
        · unfold shi
          rw [if_neg (by omega), Int.mul_zero]
    · have e1 : row (urows f g (d + 1)) (p + 1 + i) = shi (g.length - 1) (co g) i := by
        rw [row_urows hf hg (by omega), ep', if_neg (by omega), Nat.add_sub_cancel_left]
      rw [e1]
      congr 1
      rw [if_neg (by omega), if_neg (by omega)]
      by_cases c : i < q
      · rw [if_pos (by omega), if_pos c]
        congr 1
        omega
      · rw [if_neg (by omega), if_neg c]
    · have e1 : row (urows f g (d + 1)) i = shi (f.length - 1) (co f) i := by
        rw [row_urows hf hg (by omega), ep', if_pos hi]
      rw [e1]
      congr 1
      by_cases c : i < p
      · rw [if_pos c, if_pos c]
      · rw [if_neg c, if_neg c, if_pos hi]
  intro i hi
  by_cases c : i < p
  · have := z i (by omega)
    rw [if_pos c] at this
    exact this
  · have := z (i + 1) (by omega)
    rw [if_neg (by omega), if_neg (by omega), if_pos (by omega), Nat.add_sub_cancel] at this
    exact this
end K65

set_option Elab.async false
set_option linter.all false
set_option maxRecDepth 100000
set_option maxHeartbeats 2000000
set_option exponentiation.threshold 20000
/-! primitive forms as primitive rows, sizes -/
namespace K65
open PySem PySem.Spec PyProof.Rows L2 FDivQ LA
theorem sg_fo : ∀ {l : List Int}, (∃ x ∈ l, x ≠ 0) → sg l = if 0 < foE l then 1 else -1
  | [], h => by
    obtain ⟨x, hx, _⟩ := h
    exact absurd hx List.not_mem_nil
  | x :: l, h => by
    unfold sg foE
    by_cases c : x = 0
    · rw [if_pos c, List.find?_cons_of_neg (by rw [c]; decide)]
      refine sg_fo ?_
      obtain ⟨y, hy, q⟩ := h
      rcases List.mem_cons.mp hy with e | e
      · rw [e] at q
        exact absurd c q
      · exact ⟨y, e, q⟩
    · rw [if_neg c, List.find?_cons_of_pos (by simpa using c)]
      rfl
/-- the form's own primitive entries are those of rows -/
theorem prim_E (l : List Int) : prim l = primE l := by
  by_cases c : cont l = 0
  · have g : gl l = 0 := by rw [← gl_cont]; exact c
    unfold prim primE
    rw [if_pos (by unfold part; rw [c]; exact Int.zero_mul _), if_pos g]
  · have g : gl l ≠ 0 := by rw [← gl_cont]; exact c
    have ex : ∃ x ∈ l, x ≠ 0 := Classical.byContradiction fun z => g (gl_all0 l fun x hx => Classical.byContradiction fun q => z ⟨x, hx, q⟩)
    have e : part l = if 0 < foE l then (gl l : Int) else -(gl l : Int) := by
      unfold part
      rw [sg_fo ex, gl_cont]
      split
      · rw [Int.mul_one]
      · rw [Int.mul_neg, Int.mul_one]
    have hp : part l ≠ 0 := fun z => c (by rw [← part_abs, z]; rfl)
    unfold prim primE
    rw [if_neg hp, if_neg g, e]
    rfl
theorem dd_bd {l : List Int} {i j : Nat} (h1 : 1 ≤ l.length) (l9 : l.length ≤ 9) (h : i + j ≤ 8) {N : Nat} (hN : nm l ≤ N) (k : Nat) : (co (dd i j l) k).natAbs ≤ 2 ^ 26 * N := by
  refine Nat.le_trans (coB (fun x hx => nm_mem hx) k) (Nat.le_trans (nm_dd i j l h1) (Nat.mul_le_mul ?_ hN))
  refine Nat.le_trans (Nat.pow_le_pow_left l9 _) ?_
  exact Nat.le_trans (Nat.pow_le_pow_right (by decide) h) (by decide)
theorem acOk_of {one l : List Int} (h1 : 1 ≤ one.length) (h2 : one.length ≤ l.length) (l9 : l.length ≤ 9) (ho : ∀ k, sm (co one k)) (hN : nm l ≤ 2 ^ 3800) : AcOk one l := by
  have e : 2 ^ 26 * 2 ^ 3800 < 2 ^ 4000 := by decide +kernel
  refine ⟨h1, h2, by omega, ho, fun a ha => ddOk_of (by omega) (by omega) ?_, fun a ha k => Nat.lt_of_le_of_lt (dd_bd (by omega) l9 (by omega) hN k) e⟩
  refine Nat.lt_of_le_of_lt (Nat.mul_le_mul ?_ hN) e
  refine Nat.le_trans (Nat.pow_le_pow_left l9 _) ?_
  exact Nat.le_trans (Nat.pow_le_pow_right (by decide) (show one.length - 1 - a + a ≤ 8 by omega)) (by decide)
/-- a form and its multiple -/
theorem prim_scale {l m : List Int} {w : Nat} {α β : Int} (hl : l.length = w) (hm : m.length = w) (ha : α ≠ 0) (hb : β ≠ 0) (h : ∀ j, j < w → α * co l j = β * co m j) : prim l = prim m := by
  rw [prim_E, prim_E]
  refine prim_pq (w := w) ⟨hl, hm, α, β, ha, hb, fun j => ?_⟩
  by_cases c : j < w
  · exact h j c
  · rw [co_far (by omega), co_far (by omega), Int.mul_zero, Int.mul_zero]
theorem ch_fc : ∀ n, n ≤ 8 → ∀ k, k ≤ n → ch n k * (fc k * fc (n - k)) = fc n := by decide
theorem ch_le8 : ∀ n, n ≤ 8 → ∀ k, k ≤ n → ch n k ≤ 70 := by decide
theorem cont_of_co {l : List Int} {j : Nat} (h : co l j ≠ 0) : cont l ≠ 0 := fun z => h (by
  have g : gl l = 0 := by rw [← gl_cont]; exact z
  exact gl_zero g j)
theorem part_ne {l : List Int} (h : cont l ≠ 0) : part l ≠ 0 := fun z => h (by rw [← part_abs, z]; rfl)
theorem co_prim {l : List Int} (h : cont l ≠ 0) (j : Nat) : part l * co (prim l) j = co l j := by
  obtain ⟨e, _, _⟩ := prim_spec h
  rw [← co_scale, ← e]
end K65

set_option Elab.async false
set_option linter.all false
set_option maxRecDepth 100000
set_option maxHeartbeats 2000000
set_option exponentiation.threshold 20000
/-! the form that two forms kill -/
namespace K65
open PySem PySem.Spec PyProof.Rows L2 FDivQ LA
/-- whether the products of two forms are independent -/
def apB (f g : List Int) : Bool := decide ((ech less (urows f g (f.length + g.length - 3)) (f.length + g.length - 2)).length = f.length + g.length - 2)
def kerU (f g : List Int) : List (List Int) := kern (urows f g (f.length + g.length - 4)) (f.length + g.length - 3)
def fl (K : List Int) (n : Nat) : List Int := tb (n + 1) fun k => (ch n k : Int) * co K k
def wf (f g : List Int) : List Int := prim (fl ((kerU f g).getD 0 []) (f.length + g.length - 4))
structure Two (f g : List Int) (a b n : Nat) : Prop where
  hf : f.length = a + 1
  hg : g.length = b + 1
  ha : 1 ≤ a
  hb : 1 ≤ b
  hn : a + b = n + 2
section
variable {f g : List Int} {a b n : Nat}
theorem Two.sw (h : Two f g a b n) : Two g f b a n := ⟨h.hg, h.hf, h.hb, h.ha, by have := h.hn; omega⟩
theorem Two.e3 (h : Two f g a b n) : f.length + g.length - 3 = n + 1 := by
  have := h.hf; have := h.hg; have := h.hn; omega
theorem Two.e2 (h : Two f g a b n) : f.length + g.length - 2 = n + 2 := by
  have := h.hf; have := h.hg; have := h.hn; omega
theorem Two.e4 (h : Two f g a b n) : f.length + g.length - 4 = n := by
  have := h.hf; have := h.hg; have := h.hn; omega
theorem ap_of (h : Two f g a b n) : apB f g = decide ((ech less (urows f g (n + 1)) (n + 2)).length = n + 2) := by
  unfold apB
  rw [h.e3, h.e2]
theorem kerU_of (h : Two f g a b n) : kerU f g = kern (urows f g n) (n + 1) := by
  unfold kerU
  rw [h.e4, h.e3]
theorem len1 (h : Two f g a b n) : (urows f g (n + 1)).length = n + 2 := by
  rw [urows_len, h.hf, h.hg]
  have := h.hn; have := h.ha; have := h.hb
  omega
theorem len0 (h : Two f g a b n) : (urows f g n).length = n := by
  rw [urows_len, h.hf, h.hg]
  have := h.hn; have := h.ha; have := h.hb
  omega
theorem ap_ind (h : Two f g a b n) (c : apB f g = true) : Ind (n + 2) (n + 2) (row (urows f g (n + 1))) := by
  rw [ap_of h] at c
  have := ind_full lePP (w := n + 2) (A := urows f g (n + 1)) urows_w (by rw [len1 h]; exact of_decide_eq_true c)
  rw [len1 h] at this
  exact this
theorem rk_n (h : Two f g a b n) (c : apB f g = true) : (ech less (urows f g n) (n + 1)).length = n := by
  have hi := ap_ind h c
  rw [← len1 h] at hi
  conv at hi => arg 1; rw [len1 h]
  have h1 := h.hf; have h2 := h.hg; have h3 := h.hn; have h4 := h.ha; have h5 := h.hb
  have := full_ind lePP (w := n + 1) (A := urows f g n) urows_w (ind_less (by omega) (by omega) (by omega) (by omega) hi)
  rw [this, len0 h]
theorem ind_nz {w n i : Nat} {A : Nat → Nat → Int} (h : Ind w n A) (hi : i < n) : ∃ j, j < w ∧ A i j ≠ 0 := Classical.byContradiction fun c => by
  have := h (fun k => if k = i then 1 else 0) (fun j hj => by
    rw [S_one (p := i) hi fun k _ hk => by rw [if_neg hk, Int.zero_mul]]
    rw [if_pos rfl, Int.one_mul]
    exact Classical.byContradiction fun q => c ⟨j, hj, q⟩) i hi
  rw [if_pos rfl] at this
  cases this
theorem shi_nz {d i j : Nat} {u : Nat → Int} (h : shi d u i j ≠ 0) : ∃ k, k ≤ d ∧ u k ≠ 0 := by
  unfold shi at h
  split at h
  · next c => exact ⟨_, c.2, h⟩
  · exact absurd rfl h
theorem ap_nz (h : Two f g a b n) (c : apB f g = true) : (∃ k, k ≤ a ∧ co f k ≠ 0) ∧ ∃ k, k ≤ b ∧ co g k ≠ 0 := by
  have hi := ap_ind h c
  have h1 := h.hf; have h2 := h.hg; have h3 := h.hn; have h4 := h.ha; have h5 := h.hb
  constructor
  · obtain ⟨j, _, q⟩ := ind_nz hi (show 0 < n + 2 by omega)
    rw [row_urows (by omega) (by omega) (by omega), if_pos (by omega), h1] at q
    exact shi_nz q
  · obtain ⟨j, _, q⟩ := ind_nz hi (show b < n + 2 by omega)
    rw [row_urows (by omega) (by omega) (by omega), if_neg (by omega), h2] at q
    exact shi_nz q
theorem ap_zero (h : Two f g a b n) (z : cont f = 0 ∨ cont g = 0) : apB f g = false := by
  cases c : apB f g with
  | false => rfl
  | true =>
    obtain ⟨⟨k, _, q⟩, j, _, q'⟩ := ap_nz h c
    rcases z with z | z
    · exact absurd z (cont_of_co q)
    · exact absurd z (cont_of_co q')
/-! ### the same span -/
theorem shf_map (c : Int) (f : List Int) (d : Nat) : shf (f.map (c * ·)) d = (shf f d).map (List.map (c * ·)) := by
  unfold shf
  rw [List.length_map, List.map_map]
  refine List.map_congr_left fun i _ => ?_
  show _ = List.map (c * ·) _
  rw [List.map_append, List.map_append, List.map_replicate, List.map_replicate, Int.mul_zero]
theorem sp1 {c : Int} (d : Nat) : ∀ t ∈ urows g (f.map (c * ·)) d, SpM (d + 1) (urows f g d) t := fun t ht => by
  rcases List.mem_append.mp ht with q | q
  · exact SpM.own (List.mem_append_right _ q)
  · rw [shf_map] at q
    obtain ⟨u, hu, rfl⟩ := List.mem_map.mp q
    exact SpM.mul (c := 1) (α := c) (by decide) (SpM.own (List.mem_append_left _ hu)) fun j _ => by rw [co_scale, Int.one_mul]
theorem sp2 {c : Int} (hc : c ≠ 0) (d : Nat) : ∀ t ∈ urows f g d, SpM (d + 1) (urows g (f.map (c * ·)) d) t := fun t ht => by
  rcases List.mem_append.mp ht with q | q
  · refine SpM.mul (c := c) (α := 1) (u := t.map (c * ·)) hc (SpM.own (List.mem_append_right _ ?_)) fun j _ => by rw [co_scale, Int.one_mul]
    rw [shf_map]
    exact List.mem_map.mpr ⟨t, q, rfl⟩
  · exact SpM.own (List.mem_append_left _ q)
theorem same_ap {c : Int} (hc : c ≠ 0) : apB g (f.map (c * ·)) = apB f g := by
  unfold apB
  rw [List.length_map, Nat.add_comm g.length f.length]
  by_cases z : f.length + g.length < 3
  · -- no rows of that width
    have e : ∀ u v : List Int, u.length + v.length = f.length + g.length → (ech less (urows u v (f.length + g.length - 3)) (f.length + g.length - 2)).length = 0 := fun u v _ => by
      rw [show f.length + g.length - 2 = 0 by omega]
      rfl
    rw [e _ _ (by rw [List.length_map, Nat.add_comm]), e _ _ rfl]
  · rw [show f.length + g.length - 2 = f.length + g.length - 3 + 1 by omega, ech_same lePP lePP urows_w urows_w (sp1 _) (sp2 hc _)]
theorem map1 (f : List Int) : f.map ((1 : Int) * ·) = f := by
  conv => rhs; rw [← List.map_id f]
  exact List.map_congr_left fun x _ => Int.one_mul x
theorem sw_ap : apB g f = apB f g := by
  have := same_ap (f := f) (g := g) (c := 1) (by decide)
  rw [map1] at this
  exact this
/-! ### the form -/
theorem ker_one (h : Two f g a b n) (c : apB f g = true) : ∃ K, kerU f g = [K] ∧ K.length = n + 1 ∧ (∀ r ∈ urows f g n, S (n + 1) (fun j => co K j * co r j) = 0) ∧ (∃ j, j < n + 1 ∧ co K j ≠ 0) ∧ kern (urows f g n) (n + 1) = [K] := by
  have K := ks (rows := urows f g n) (w := n + 1) urows_w
  have c1 := K.cnt
  rw [rk_n h c] at c1
  rw [kerU_of h]
  match hk : kern (urows f g n) (n + 1), c1 with
  | [k], _ =>
    have m : k ∈ kern (urows f g n) (n + 1) := by rw [hk]; exact List.mem_singleton.mpr rfl
    exact ⟨k, rfl, K.len k m, K.dot k m, ⟨_, K.lt k m, K.nz k m⟩, rfl⟩
  | [], c1 => exact absurd c1 (by simp)
  | _ :: _ :: _, c1 => exact absurd c1 (by simp only [List.length_cons]; omega)
theorem fl_len (K : List Int) (n : Nat) : (fl K n).length = n + 1 := tb_len _ _
theorem co_fl {K : List Int} {n k : Nat} (h : k < n + 1) : co (fl K n) k = (ch n k : Int) * co K k := by
  unfold fl
  rw [co_tb, if_pos h]
structure WfS (f g K F : List Int) (n : Nat) (p : Int) : Prop where
  k : kerU f g = [K]
  kk : kern (urows f g n) (n + 1) = [K]
  kl : K.length = n + 1
  dot : ∀ r ∈ urows f g n, S (n + 1) (fun j => co K j * co r j) = 0
  e : wf f g = F
  ef : F = prim (fl K n)
  cf : cont (fl K n) ≠ 0
  len : F.length = n + 1
  one : cont F = 1
  p0 : p ≠ 0
  lv : ∀ k, k < n + 1 → p * co (lev F) k = fc n * co K k
  nz : ∃ k, k < F.length ∧ co F k ≠ 0
theorem wf_spec (h : Two f g a b n) (n8 : n ≤ 8) (c : apB f g = true) : ∃ K F p, WfS f g K F n p := by
  obtain ⟨K, k1, k2, k3, ⟨j, hj, nj⟩, k4⟩ := ker_one h c
  have e : wf f g = prim (fl K n) := by
    unfold wf
    rw [k1, h.e4]
    rfl
  have chp : ∀ k, k ≤ n → (ch n k : Int) ≠ 0 := fun k hk z => by
    have q := ch_fc n n8 k hk
    have z : ch n k = 0 := by exact_mod_cast z
    rw [z, Nat.zero_mul] at q
    exact absurd q (Nat.ne_of_lt (fc_pos n))
  have nz : co (fl K n) j ≠ 0 := by
    rw [co_fl hj]
    exact fun z => (Int.mul_eq_zero.mp z).elim (chp j (by omega)) nj
  have hc := cont_of_co nz
  have hp := part_ne hc
  have lF : (prim (fl K n)).length = n + 1 := by rw [prim_len, fl_len]
  refine ⟨K, prim (fl K n), part (fl K n), k1, k4, k2, k3, e, rfl, hc, lF, (prim_spec hc).2.1, hp, fun k hk => ?_, j, by rw [lF]; exact hj, fun z => nz ?_⟩
  · rw [co_lev (by rw [lF]; exact hk), lF, Nat.add_sub_cancel]
    have q := ch_fc n n8 k (by omega)
    have co1 := co_prim hc k
    rw [co_fl hk] at co1
    have q' : (ch n k : Int) * ((fc k : Int) * (fc (n - k) : Int)) = (fc n : Int) := by exact_mod_cast q
    rw [← q']
    calc part (fl K n) * ((fc k : Int) * (fc (n - k) : Int) * co (prim (fl K n)) k) = ((fc k : Int) * (fc (n - k) : Int)) * (part (fl K n) * co (prim (fl K n)) k) := by
          rw [Int.mul_left_comm]
      _ = (ch n k : Int) * ((fc k : Int) * (fc (n - k) : Int)) * co K k := by
          rw [co1, Int.mul_comm (ch n k : Int), Int.mul_comm (ch n k : Int), Int.mul_assoc, Int.mul_assoc, Int.mul_assoc, Int.mul_comm (co K k)]
  · rw [← co_prim hc j, z, Int.mul_zero]
/-- the form of a row -/
theorem WfS.kills {K F u : List Int} {m : Nat} {p : Int} (s : WfS f g K F n p) (hu : u.length = m + 1) (hs : ∀ r ∈ shf u n, r ∈ urows f g n) : Kl F m (co u) := fun i hi => by
  rw [s.len] at hi
  have d := s.dot _ (hs _ (mem_row (B := shf u n) (k := i) (by rw [shf_len, hu]; omega)))
  have e := row_shf (g := u) (d := n) (i := i) (by omega) (by omega)
  rw [S_congr (g := fun j => shi m (co u) i j * co K j) fun j _ => by
    rw [Int.mul_comm]
    congr 1
    have := congrFun e j
    rw [hu] at this
    exact this] at d
  rw [S_shi (by omega)] at d
  have z : p * S (m + 1) (fun a => co u a * co (lev F) (i + a)) = 0 := by
    rw [← S_mul, S_congr (g := fun b => (fc n : Int) * (co u b * co K (i + b))) fun b hb => by
      rw [Int.mul_left_comm, s.lv _ (by omega), Int.mul_left_comm], S_mul, d, Int.mul_zero]
  exact (Int.mul_eq_zero.mp z).resolve_left s.p0
theorem dk_of {u F : List Int} {m : Nat} (hu : u.length = m + 1) (h : m < F.length → Kl F m (co u)) : dk u F = true := by
  unfold dk
  by_cases c : F.length < u.length
  · rw [decide_eq_true c, Bool.true_or]
  · rw [decide_eq_false c, Bool.false_or]
    have hm : m < F.length := by omega
    have z := (kl_act hu hm).mp (h hm)
    rw [Bool.not_eq_true', List.any_eq_false]
    intro x hx
    obtain ⟨j, _, e⟩ := mem_co hx
    rw [z j] at e
    rw [← e]
    decide
theorem WfS.kf (h : Two f g a b n) {K F : List Int} {p : Int} (s : WfS f g K F n p) : Kl F a (co f) ∧ Kl F b (co g) :=
  ⟨s.kills h.hf fun _ q => List.mem_append_left _ q, s.kills h.hg fun _ q => List.mem_append_right _ q⟩
theorem WfS.dk (h : Two f g a b n) {K F : List Int} {p : Int} (s : WfS f g K F n p) : dk f F = true ∧ K65.dk g F = true :=
  ⟨dk_of h.hf fun _ => (s.kf h).1, dk_of h.hg fun _ => (s.kf h).2⟩
end
end K65

set_option Elab.async false
set_option linter.all false
set_option maxRecDepth 100000
set_option maxHeartbeats 2000000
set_option exponentiation.threshold 20000
/-! the two killers of a form are apart, and the form that they kill -/
namespace K65
open PySem PySem.Spec PyProof.Rows L2 FDivQ LA
theorem ind_snoc {w n : Nat} {A : Nat → Nat → Int} {v : Nat → Int} (hI : Ind w n A) (ns : ¬ Sp w n A v) : Ind w (n + 1) (fun i => if i < n then A i else v) := fun a ha => by
  have e : ∀ j, j < w → S n (fun i => a i * A i j) + a n * v j = 0 := fun j hj => by
    have := ha j hj
    have e2 : S n (fun i => a i * (if i < n then A i else v) j) + a n * (if n < n then A n else v) j = 0 := this
    rw [if_neg (Nat.lt_irrefl _), S_congr (g := fun i => a i * A i j) fun i hi => by rw [if_pos hi]] at e2
    exact e2
  have last : a n = 0 := Classical.byContradiction fun q => ns ⟨a n, q, fun i => - a i, fun j hj => by
    have := e j hj
    rw [S_congr (g := fun i => (-1) * (a i * A i j)) fun i _ => by rw [Int.neg_mul, Int.neg_mul, Int.one_mul], S_mul]
    omega⟩
  have rest := hI a fun j hj => by
    have := e j hj
    rw [last, Int.zero_mul, Int.add_zero] at this
    exact this
  intro i hi
  by_cases c : i < n
  · exact rest i c
  · rw [show i = n by omega, last]
/-- as many independent ones as span, span -/
theorem full_span {w n m : Nat} {A B : Nat → Nat → Int} {v : Nat → Int} (hI : Ind w n A) (hA : ∀ i, i < n → Sp w m B (A i)) (hm : m ≤ n) (hv : Sp w m B v) : Sp w n A v := Classical.byContradiction fun ns => by
  have := steinitz (ind_snoc hI ns) (m := m) (B := B) fun i hi => by
    by_cases c : i < n
    · rw [if_pos c]
      exact hA i c
    · rw [if_neg c]
      exact hv
  omega
/-- what all killers kill is of the rows -/
theorem double_perp {A : List (List Int)} {w : Nat} (hA : ∀ r ∈ A, r.length = w) {φ : Nat → Int} (h : ∀ k ∈ kern A w, S w (fun j => φ j * co k j) = 0) : Sp w A.length (row A) φ := by
  have K1 := ks hA
  have K2 := ks (rows := kern A w) (w := w) K1.len
  have c1 := K1.cnt
  have c2 := K2.cnt
  rw [full_ind lePP K1.len K1.ind] at c2
  obtain ⟨_, E, b, _⟩ := K1.base
  have sE : ∀ i, i < (ech less A w).length → Sp w (kern (kern A w) w).length (row (kern (kern A w) w)) (E i) := fun i hi => K2.all (E i) fun r hr => by
    have := Sp.perp (x := co r) (b.of i hi) fun k hk => K1.dot r hr _ (mem_row hk)
    rw [← this]
    exact S_congr fun j _ => Int.mul_comm _ _
  exact (full_span b.ind sE (by omega) (K2.all φ h)).trans fun k hk => b.of k hk
section
variable {F f1 f2 : List Int} {n r q : Nat} (lF : F.length = n + 1) (hr : 1 ≤ r) (rq : r ≤ q) (hn : r + q = n + 2) (l1 : f1.length = r + 1) (l2 : f2.length = q + 1) (k1 : Kl F r (co f1)) (k2 : Kl F q (co f2))
  (n1 : ∃ p, p ≤ r ∧ co f1 p ≠ 0) (ns : ¬ Sp (q + 1) (q - r + 1) (shi r (co f1)) (co f2)) (lo : ∀ d, d < r → kd F d = 0) (kq : kd F q = q - r + 2)
/-- the recurrences of both hold -/
def Rec (f1 f2 : List Int) (r q : Nat) (φ : Nat → Int) (d : Nat) : Prop := (∀ i, i + r ≤ d → S (r + 1) (fun b => co f1 b * φ (i + b)) = 0) ∧ ∀ i, i + q ≤ d → S (q + 1) (fun b => co f2 b * φ (i + b)) = 0
include lF hr rq hn l1 l2 k1 k2 n1 ns lo kq
theorem rec_base {φ : Nat → Int} (h : Rec f1 f2 r q φ q) : ∃ c : Int, c ≠ 0 ∧ ∃ a : Nat → Int, ∀ j, j ≤ q → c * φ j = S (n + 1 - q) (fun i => a i * co (lev F) (i + j)) := by
  obtain ⟨p0, hp0, q0⟩ := n1
  obtain ⟨p, hp, least⟩ := leastE (p := fun j => co f1 j ≠ 0) p0 q0
  have hpr : p ≤ r := Classical.byContradiction fun c => least p0 (by omega) q0
  obtain ⟨m, rfl⟩ : ∃ m, q = r + m := ⟨q - r, by omega⟩
  rw [show r + m - r = m by omega] at ns kq
  have i0 := shifts_ind (m := m) hpr hp fun j hj => Classical.byContradiction fun z => least j hj z
  have i1 := ind_snoc i0 ns
  have sK : ∀ i, i < m + 1 + 1 → Sp (r + m + 1) (kd F (r + m)) (row (kern (lrows F (r + m)) (r + m + 1))) (if i < m + 1 then shi r (co f1) i else co f2) := fun i hi => by
    by_cases c : i < m + 1
    · rw [if_pos c]
      exact kl_sp (kl_shi k1 (by omega))
    · rw [if_neg c]
      exact kl_sp k2
  have perp : ∀ i, i < m + 1 + 1 → S (r + m + 1) (fun j => φ j * (if i < m + 1 then shi r (co f1) i else co f2) j) = 0 := fun i hi => by
    by_cases c : i < m + 1
    · rw [if_pos c, S_congr (g := fun j => shi r (co f1) i j * φ j) fun j _ => Int.mul_comm _ _, S_shi (by omega)]
      exact h.1 i (by omega)
    · rw [if_neg c]
      have := h.2 0 (by omega)
      rw [← this]
      exact S_congr fun j _ => by rw [Int.mul_comm, Nat.zero_add]
  obtain ⟨c, hc, a, e⟩ := double_perp (A := lrows F (r + m)) lrows_w (φ := φ) fun k hk => by
    obtain ⟨i, hi, ei⟩ := row_mem hk
    have s := full_span i1 sK (by omega) (Sp.own (B := row (kern (lrows F (r + m)) (r + m + 1))) hi)
    rw [ei] at s
    exact Sp.perp s perp
  refine ⟨c, hc, a, fun j hj => ?_⟩
  rw [e j (by omega), lrows_len, lF]
  exact S_congr fun i hi => by rw [row_lrows (by omega) (by omega)]
theorem rec_all : ∀ m, q + m ≤ n + 1 → ∀ φ : Nat → Int, Rec f1 f2 r q φ (q + m) → ∃ c : Int, c ≠ 0 ∧ ∃ a : Nat → Int, ∀ j, j ≤ q + m → c * φ j = S (n + 1 - (q + m)) (fun i => a i * co (lev F) (i + j))
  | 0, _, φ, h => rec_base lF hr rq hn l1 l2 k1 k2 n1 ns lo kq h
  | m + 1, hm, φ, h => by
    obtain ⟨c1, h1, a, e1⟩ := rec_all m (by omega) φ ⟨fun i hi => h.1 i (by omega), fun i hi => h.2 i (by omega)⟩
    obtain ⟨c2, h2, b, e2⟩ := rec_all m (by omega) (fun j => φ (j + 1)) ⟨fun i hi => by
      have := h.1 (i + 1) (by omega)
      rw [← this]
      exact S_congr fun b _ => by
        dsimp only
        rw [show i + b + 1 = i + 1 + b by omega], fun i hi => by
      have := h.2 (i + 1) (by omega)
      rw [← this]
      exact S_congr fun b _ => by
        dsimp only
        rw [show i + b + 1 = i + 1 + b by omega]⟩
    obtain ⟨N, hN⟩ : ∃ N, n + 1 - (q + m) = N + 1 := ⟨n - (q + m), by omega⟩
    rw [hN] at e1 e2
    rw [show n + 1 - (q + (m + 1)) = N by omega]
    -- the difference
    have kE : Kl F (N + 1) (fun i => (if i = 0 then 0 else c2 * a (i - 1)) - (if i < N + 1 then c1 * b i else 0)) := fun j hj => by
      rw [lF] at hj
      have x1 := e1 (j + 1) (by omega)
      have x2 := e2 j (by omega)
      have s1 : S (N + 2) (fun i => (if i = 0 then 0 else c2 * a (i - 1)) * co (lev F) (j + i)) = c2 * (c1 * φ (j + 1)) := by
        rw [show N + 2 = N + 1 + 1 from rfl, S_head, if_pos rfl, Int.zero_mul, Int.zero_add, x1, ← S_mul]
        exact S_congr fun i _ => by
          rw [if_neg (by omega), Nat.add_sub_cancel, Int.mul_assoc, show j + (i + 1) = i + (j + 1) by omega]
      have s2 : S (N + 2) (fun i => (if i < N + 1 then c1 * b i else 0) * co (lev F) (j + i)) = c1 * (c2 * φ (j + 1)) := by
        show S (N + 1) _ + (if N + 1 < N + 1 then c1 * b (N + 1) else 0) * _ = _
        rw [if_neg (Nat.lt_irrefl _), Int.zero_mul, Int.add_zero, x2, ← S_mul]
        exact S_congr fun i hi => by
          rw [if_pos hi, Int.mul_assoc, Nat.add_comm j i]
      have s3 : S (N + 2) (fun i => ((if i = 0 then 0 else c2 * a (i - 1)) - (if i < N + 1 then c1 * b i else 0)) * co (lev F) (j + i)) = S (N + 2) (fun i => (if i = 0 then 0 else c2 * a (i - 1)) * co (lev F) (j + i)) + (-1) * S (N + 2) (fun i => (if i < N + 1 then c1 * b i else 0) * co (lev F) (j + i)) := by
        rw [← S_mul, ← S_add]
        exact S_congr fun i _ => by grind
      show S (N + 2) _ = 0
      rw [s3, s1, s2]
      grind
    have zE := Spm_z (lo (N + 1) (by omega)) _ (kl_sp kE)
    have b0 : b 0 = 0 := by
      have := zE 0 (by omega)
      rw [if_pos rfl, if_pos (by omega)] at this
      have : c1 * b 0 = 0 := by omega
      exact (Int.mul_eq_zero.mp this).resolve_left h1
    have aN : a N = 0 := by
      have := zE (N + 1) (by omega)
      rw [if_neg (by omega), if_neg (by omega), Nat.add_sub_cancel] at this
      have : c2 * a N = 0 := by omega
      exact (Int.mul_eq_zero.mp this).resolve_left h2
    have ab : ∀ i, i < N → c2 * a i = c1 * b (i + 1) := fun i hi => by
      have := zE (i + 1) (by omega)
      rw [if_neg (by omega), if_pos (by omega), Nat.add_sub_cancel] at this
      omega
    refine ⟨c1, h1, a, fun j hj => ?_⟩
    by_cases c : j ≤ q + m
    · rw [e1 j c]
      show S N _ + a N * _ = _
      rw [aN, Int.zero_mul, Int.add_zero]
    · have ej : j = q + m + 1 := by omega
      subst ej
      have x := e2 (q + m) (Nat.le_refl _)
      rw [S_head, b0, Int.zero_mul, Int.zero_add] at x
      have y : c2 * (c1 * φ (q + m + 1)) = c2 * S N (fun i => a i * co (lev F) (i + (q + m + 1))) := by
        rw [Int.mul_left_comm, x, ← S_mul, ← S_mul]
        exact S_congr fun i hi => by
          rw [← Int.mul_assoc, ← Int.mul_assoc, ab i hi, show i + 1 + (q + m) = i + (q + m + 1) by omega]
      exact Int.eq_of_mul_eq_mul_left h2 y
theorem two_apart : apB f1 f2 = true := by
  have t : Two f1 f2 r q n := ⟨l1, l2, hr, by omega, hn⟩
  rw [ap_of t]
  have K := ks (rows := urows f1 f2 (n + 1)) (w := n + 2) urows_w
  have c := K.cnt
  have z : (kern (urows f1 f2 (n + 1)) (n + 2)).length = 0 := by
    match hk : kern (urows f1 f2 (n + 1)) (n + 2) with
    | [] => rfl
    | k :: ks' =>
      exfalso
      have mk : k ∈ kern (urows f1 f2 (n + 1)) (n + 2) := by rw [hk]; exact List.mem_cons_self
      have rc : Rec f1 f2 r q (co k) (q + (n + 1 - q)) := ⟨fun i hi => by
        have d := K.dot k mk _ (List.mem_append_left _ (mem_row (B := shf f1 (n + 1)) (k := i) (by rw [shf_len, l1]; omega)))
        have e := row_shf (g := f1) (d := n + 1) (i := i) (by omega) (by omega)
        rw [S_congr (g := fun j => shi r (co f1) i j * co k j) fun j _ => by
          rw [Int.mul_comm]
          congr 1
          have := congrFun e j
          rw [l1] at this
          exact this, S_shi (by omega)] at d
        exact d, fun i hi => by
        have d := K.dot k mk _ (List.mem_append_right _ (mem_row (B := shf f2 (n + 1)) (k := i) (by rw [shf_len, l2]; omega)))
        have e := row_shf (g := f2) (d := n + 1) (i := i) (by omega) (by omega)
        rw [S_congr (g := fun j => shi q (co f2) i j * co k j) fun j _ => by
          rw [Int.mul_comm]
          congr 1
          have := congrFun e j
          rw [l2] at this
          exact this, S_shi (by omega)] at d
        exact d⟩
      obtain ⟨c, hc, a, e⟩ := rec_all lF hr rq hn l1 l2 k1 k2 n1 ns lo kq (n + 1 - q) (by omega) (co k) rc
      have lt := K.lt k mk
      have := e (ld k) (by omega)
      rw [show n + 1 - (q + (n + 1 - q)) = 0 by omega] at this
      exact K.nz k mk ((Int.mul_eq_zero.mp this).resolve_left hc)
  exact decide_eq_true (by omega)
end
/-- the form that its killers kill -/
theorem wf_back {F f1 f2 : List Int} {n r q : Nat} (lF : F.length = n + 1) (n8 : n ≤ 8) (t : Two f1 f2 r q n) (c : apB f1 f2 = true) (k1 : Kl F r (co f1)) (k2 : Kl F q (co f2)) (nz : ∃ k, k < F.length ∧ co F k ≠ 0) : wf f1 f2 = prim F := by
  obtain ⟨K, G, p, W⟩ := wf_spec t n8 c
  rw [W.e, W.ef]
  have KK := ks (rows := urows f1 f2 n) (w := n + 1) urows_w
  have one : ∀ {f : List Int} {d : Nat}, f.length = d + 1 → Kl F d (co f) → ∀ r ∈ shf f n, S (n + 1) (fun j => co (lev F) j * co r j) = 0 := fun {f d} lf kl r hr => by
    obtain ⟨i, hi, rfl⟩ := List.mem_map.mp hr
    have hi := List.mem_range.mp hi
    rw [S_congr (g := fun j => shi d (co f) i j * co (lev F) j) fun j _ => by
      rw [Int.mul_comm, co_shrow (by omega), lf]
      rfl, S_shi (by omega)]
    exact kl i (by omega)
  have s := KK.all (co (lev F)) fun r hr => (List.mem_append.mp hr).elim (one t.hf k1 r) (one t.hg k2 r)
  rw [W.kk] at s
  obtain ⟨c0, hc, a, e⟩ := s
  have e1 : ∀ j, j < n + 1 → c0 * co (lev F) j = a 0 * co K j := fun j hj => by
    rw [e j hj]
    show 0 + a 0 * _ = _
    rw [Int.zero_add]
    rfl
  obtain ⟨k, hk, nk⟩ := lev_ne nz
  have na : a 0 ≠ 0 := fun z => by
    have := e1 k (by omega)
    rw [z, Int.zero_mul] at this
    exact nk ((Int.mul_eq_zero.mp this).resolve_left hc)
  have fp := fc_pos n
  refine prim_scale (w := n + 1) (α := a 0) (β := c0 * fc n) (fl_len K n) lF na (fun z => (Int.mul_eq_zero.mp z).elim hc (by omega)) fun j hj => ?_
  have q := ch_fc n n8 j (by omega)
  have q' : (ch n j : Int) * ((fc j : Int) * (fc (n - j) : Int)) = (fc n : Int) := by exact_mod_cast q
  rw [co_fl hj, Int.mul_left_comm, ← e1 j hj, co_lev (by omega), lF, Nat.add_sub_cancel, ← q']
  generalize (fc j : Int) = x
  generalize (fc (n - j) : Int) = y
  generalize (ch n j : Int) = z
  grind
end K65

set_option Elab.async false
set_option linter.all false
set_option maxRecDepth 100000
set_option maxHeartbeats 2000000
set_option exponentiation.threshold 20000
/-! echelons with one free place: rows as small as their kernel; all that two computations of it ask -/
namespace K65
open PySem PySem.Spec PyProof.Rows L2 FDivQ LA
theorem ech_small {rows : List (List Int)} {n B : Nat} {v : Nat → Int} (hw : ∀ r ∈ rows, r.length = n + 1) (rk : (ech less rows (n + 1)).length = n) (nz : ∃ j, j < n + 1 ∧ v j ≠ 0) (perp : ∀ r ∈ rows, S (n + 1) (fun j => v j * co r j) = 0) (hB : ∀ j, (v j).natAbs ≤ B) : ∀ t ∈ ech less rows (n + 1), ∀ j, (co t j).natAbs ≤ B := by
  have hT := told lePP (M := nm rows.flatten) hw fun r hr x hx => nm_mem (List.mem_flatten.mpr ⟨r, hr, hx⟩)
  have gls : ∀ t ∈ ech less rows (n + 1), gl t ≤ 1 := fun t ht => by
    unfold ech at ht
    obtain ⟨u, _, rfl⟩ := List.mem_map.mp ht
    exact gl_primE u
  generalize ech less rows (n + 1) = T at hT rk gls
  have cnt := frees_cnt hT.lt hT.nodup
  obtain ⟨f, hf⟩ : ∃ f, frees T (n + 1) = [f] := List.length_eq_one_iff.mp (by omega)
  have fw : f < n + 1 := (mem_frees.mp (by rw [hf]; exact List.mem_singleton.mpr rfl)).1
  have isL : ∀ j, j < n + 1 → j ≠ f → ∃ k, k < T.length ∧ ld (T.getD k []) = j := fun j hj hne => Classical.byContradiction fun no => by
    have m : j ∈ frees T (n + 1) := mem_frees.mpr ⟨hj, fun t ht e => by
      obtain ⟨k, hk, ek⟩ := List.mem_iff_getElem.mp ht
      exact no ⟨k, hk, by rw [List.getD_eq_getElem?_getD, List.getElem?_eq_getElem hk]; exact (congrArg ld ek).trans e⟩⟩
    rw [hf] at m
    exact hne (List.mem_singleton.mp m)
  have nf : ∀ t ∈ T, ld t ≠ f := fun t ht => (mem_frees.mp (by rw [hf]; exact List.mem_singleton.mpr rfl)).2 t ht
  -- two places of each row
  have two : ∀ i, i < T.length → ∀ j, j < n + 1 → j ≠ ld (T.getD i []) → j ≠ f → row T i j = 0 := fun i hi j hj h1 h2 => by
    obtain ⟨k, hk, e⟩ := isL j hj h2
    have := hT.z k i hk hi fun z => h1 (by rw [z, e])
    rw [e] at this
    exact this
  have rel : ∀ i, i < T.length → v (ld (T.getD i [])) * row T i (ld (T.getD i [])) + v f * row T i f = 0 := fun i hi => by
    have s := Sp.perp (x := v) (hT.base.of i hi) fun k hk => perp _ (mem_row hk)
    have mt := mem_row (B := T) hi
    rw [S_two (p := ld (T.getD i [])) (q := f) (hT.lt _ mt) fw (nf _ mt) fun j hj h1 h2 => by rw [two i hi j hj h1 h2, Int.mul_zero]] at s
    exact s
  have vf : v f ≠ 0 := fun z => by
    obtain ⟨j, hj, q⟩ := nz
    by_cases c : j = f
    · rw [c] at q
      exact q z
    · obtain ⟨k, hk, e⟩ := isL j hj c
      have r := rel k hk
      rw [z, Int.zero_mul, Int.add_zero, e] at r
      have nn := hT.nz _ (mem_row (B := T) hk)
      rw [e] at nn
      exact (Int.mul_eq_zero.mp r).elim q nn
  intro t ht j
  obtain ⟨i, hi, ei⟩ := List.mem_iff_getElem.mp ht
  have et : T.getD i [] = t := by
    rw [List.getD_eq_getElem?_getD, List.getElem?_eq_getElem hi]
    exact ei
  have tw := two i hi
  have rl := rel i hi
  unfold row at tw rl
  rw [et] at tw rl
  have lt := hT.len t ht
  by_cases hj : j < n + 1
  · have q := red_le (v := t) (u := fun j => if j = ld t then v f else if j = f then - v (ld t) else 0) (α := v f) (β := co t (ld t)) (gls t ht) lt vf (fun j hj => by
      by_cases c1 : j = ld t
      · rw [if_pos c1, c1, Int.mul_comm]
      · rw [if_neg c1]
        by_cases c2 : j = f
        · rw [if_pos c2, c2]
          have : v f * co t f = - (v (ld t) * co t (ld t)) := by omega
          rw [this, Int.mul_neg, Int.mul_comm]
        · rw [if_neg c2, tw j hj c1 c2, Int.mul_zero, Int.mul_zero]) j hj
    refine Nat.le_trans q ?_
    split
    · exact hB f
    · split
      · rw [Int.natAbs_neg]
        exact hB _
      · exact Nat.zero_le _
  · rw [co_far (by omega)]
    exact Nat.zero_le _
/-- what two computations of a kernel ask -/
structure KU (rows : List (List Int)) (w : Nat) : Prop where
  e : EOk less rows w
  t : ∀ t ∈ ech less rows w, t.length = w ∧ ld t < w
  k : KOk (ech less rows w)
  e2 : EOk less (kvs (ech less rows w) w) w
  le : EOk lless rows w
  lt : ∀ t ∈ ech lless rows w, t.length = w ∧ ld t < w
  lk : KOk (ech lless rows w)
  le2 : EOk lless (lkvs (ech lless rows w) w) w
  ke : ech lless (lkvs (ech lless rows w) w) w = kern rows w
theorem kbT {rows : List (List Int)} {n M B : Nat} (hw : ∀ r ∈ rows, r.length = n + 1) (rk : (ech less rows (n + 1)).length = n) (hM : ∀ r ∈ rows, ∀ x ∈ r, x.natAbs ≤ M) (hB : ∀ t ∈ ech less rows (n + 1), ∀ j, (co t j).natAbs ≤ B)
    (n1 : BdE rows.length M < 2 ^ 4470) (B1 : 1 ≤ B) (n2 : B ^ (n + 1) < 2 ^ 4470) (n3 : BdE 1 (B ^ (n + 1)) < 2 ^ 4470) : KU rows (n + 1) := by
  have hT := told lePP (M := M) hw hM
  have e1 := ech_eq hw
  have eP := eokP hw hM n1
  have eL := eokL hw hM n1
  generalize hTl : ech less rows (n + 1) = T at hT e1 rk hB
  have lead : ∀ t ∈ T, t.length = n + 1 ∧ ld t < n + 1 := fun t ht => ⟨hT.len t ht, hT.lt t ht⟩
  have kv1 := kv hT
  have ko : KOk T := kok (B := B) hT.nz hB B1 (by rw [rk]; exact n2)
  have cnt := frees_cnt hT.lt hT.nodup
  have kl : ∀ r ∈ kvs T (n + 1), r.length = n + 1 := fun r hr => by
    obtain ⟨f, _, rfl⟩ := List.mem_map.mp hr
    exact kone_len _ _ _
  have kb : ∀ r ∈ kvs T (n + 1), ∀ x ∈ r, x.natAbs ≤ B ^ (n + 1) := fun r hr x hx => by
    obtain ⟨f, hf, rfl⟩ := List.mem_map.mp hr
    obtain ⟨j, _, e⟩ := mem_co hx
    rw [← e]
    have := kv1.bd B hB B1 f hf j
    rw [rk] at this
    exact this
  have kc : (kvs T (n + 1)).length = (frees T (n + 1)).length := List.length_map ..
  have kn2 : BdE (kvs T (n + 1)).length (B ^ (n + 1)) < 2 ^ 4470 := Nat.lt_of_le_of_lt (Bd_mono (by omega)) n3
  have ek : lkvs T (n + 1) = kvs T (n + 1) := by
    unfold lkvs kvs
    refine List.map_congr_left fun f _ => ?_
    unfold lkone kone
    exact lst_kst (T := T) (fun t ht => ⟨hT.nz t ht, (whl_ok fun u hu => ⟨hT.nz u hu, hT.bd u hu _⟩).2.1 t ht⟩) T _ fun u hu => hu
  have kk : kern rows (n + 1) = ech less (kvs T (n + 1)) (n + 1) := by
    unfold kern
    rw [hTl]
  refine ⟨eP, ?_, ?_, ?_, eL, ?_, ?_, ?_, ?_⟩
  · rw [hTl]; exact lead
  · rw [hTl]; exact ko
  · rw [hTl]; exact eokP kl kb kn2
  · rw [← e1]; exact lead
  · rw [← e1]; exact ko
  · rw [← e1, ek]; exact eokL kl kb kn2
  · rw [← e1, ek, kk, ech_eq kl]
end K65

set_option Elab.async false
set_option linter.all false
set_option maxRecDepth 100000
set_option maxHeartbeats 2000000
/-! what a form without common divisors divides with fractions it divides -/
namespace K65
open PySem PySem.Spec PyProof.Rows L2 FDivQ LA
/-- a least divisor divides a factor -/
theorem least_div {c : Nat} (hc : 1 < c) : ∃ p : Nat, 1 < p ∧ p ∣ c ∧ ∀ x y : Int, (p : Int) ∣ x * y → (p : Int) ∣ x ∨ (p : Int) ∣ y := by
  obtain ⟨p, ⟨hp, hd⟩, lo⟩ := leastE (p := fun p => 1 < p ∧ p ∣ c) c ⟨hc, Nat.dvd_refl c⟩
  refine ⟨p, hp, hd, fun x y h => ?_⟩
  have g1 := Nat.gcd_dvd_left p x.natAbs
  have g2 := Nat.gcd_dvd_right p x.natAbs
  have h' : p ∣ x.natAbs * y.natAbs := by
    rw [← Int.natAbs_mul]
    exact Int.ofNat_dvd_left.mp h
  rcases Nat.lt_or_ge 1 (Nat.gcd p x.natAbs) with q | q
  · have : ¬ Nat.gcd p x.natAbs < p := fun z => lo _ z ⟨q, Nat.dvd_trans g1 hd⟩
    have e : Nat.gcd p x.natAbs = p := Nat.le_antisymm (Nat.le_of_dvd (by omega) g1) (by omega)
    rw [e] at g2
    exact .inl (Int.ofNat_dvd_left.mpr g2)
  · have e : Nat.gcd p x.natAbs = 1 := by
      have : 0 < Nat.gcd p x.natAbs := Nat.gcd_pos_of_pos_left _ (by omega)
      omega
    exact .inr (Int.ofNat_dvd_left.mpr (Nat.Coprime.dvd_of_dvd_mul_left e h'))
theorem S_dvd {p : Int} {g : Nat → Int} : ∀ {n : Nat}, (∀ i, i < n → p ∣ g i) → p ∣ S n g
  | 0, _ => ⟨0, (Int.mul_zero p).symm⟩
  | n + 1, h => Int.dvd_add (S_dvd fun i hi => h i (by omega)) (h n (Nat.lt_succ_self n))
theorem gauss_step {f a v : Nat → Int} {r m p : Nat} {c : Int} (pr : ∀ x y : Int, (p : Int) ∣ x * y → (p : Int) ∣ x ∨ (p : Int) ∣ y) (hp : (p : Int) ∣ c) (hf : ∃ j, j ≤ r ∧ ¬ (p : Int) ∣ f j)
    (h : ∀ j, j < r + m + 1 → c * v j = S (m + 1) (fun i => a i * shi r f i j)) : ∀ i, i < m + 1 → (p : Int) ∣ a i := fun i hi => Classical.byContradiction fun no => by
  obtain ⟨i0, ⟨hi0, n0⟩, lo⟩ := leastE (p := fun i => i < m + 1 ∧ ¬ (p : Int) ∣ a i) i ⟨hi, no⟩
  obtain ⟨j1, hj1, nj1⟩ := hf
  obtain ⟨j0, nj, lj⟩ := leastE (p := fun j => ¬ (p : Int) ∣ f j) j1 nj1
  have hj0 : j0 ≤ r := Classical.byContradiction fun z => lj j1 (by omega) nj1
  have e := h (i0 + j0) (by omega)
  have sp : S (m + 1) (fun i => a i * shi r f i (i0 + j0)) = a i0 * f j0 + S (m + 1) (fun i => if i = i0 then 0 else a i * shi r f i (i0 + j0)) := by
    have o := S_one (f := fun i => if i = i0 then a i0 * f j0 else 0) (p := i0) hi0 fun k _ hk => if_neg hk
    rw [if_pos rfl] at o
    rw [← o, ← S_add]
    refine S_congr fun k _ => ?_
    by_cases ck : k = i0
    · rw [if_pos ck, if_pos ck, ck, Int.add_zero]
      unfold shi
      rw [if_pos ⟨by omega, by omega⟩, Nat.add_sub_cancel_left]
    · rw [if_neg ck, if_neg ck, Int.zero_add]
  have d1 : (p : Int) ∣ S (m + 1) (fun i => if i = i0 then 0 else a i * shi r f i (i0 + j0)) := S_dvd fun k hk => by
    by_cases ck : k = i0
    · rw [if_pos ck]
      exact ⟨0, (Int.mul_zero _).symm⟩
    · rw [if_neg ck]
      by_cases lt : k < i0
      · have : (p : Int) ∣ a k := Classical.byContradiction fun z => lo k lt ⟨hk, z⟩
        exact Int.dvd_trans this (Int.dvd_mul_right _ _)
      · unfold shi
        split
        · have : (p : Int) ∣ f (i0 + j0 - k) := Classical.byContradiction fun z => lj _ (by omega) z
          exact Int.dvd_trans this (Int.dvd_mul_left _ _)
        · rw [Int.mul_zero]
          exact ⟨0, (Int.mul_zero _).symm⟩
  have d2 : (p : Int) ∣ a i0 * f j0 := by
    have t : (p : Int) ∣ c * v (i0 + j0) := Int.dvd_trans hp (Int.dvd_mul_right _ _)
    rw [e, sp] at t
    have := Int.dvd_sub t d1
    rw [Int.add_sub_cancel] at this
    exact this
  exact (pr _ _ d2).elim n0 nj
/-- Gauss: with a form without common divisors -/
theorem gaussS {f v : Nat → Int} {r m : Nat} (hf : ∀ p : Nat, 1 < p → ∃ j, j ≤ r ∧ ¬ (p : Int) ∣ f j) : ∀ (q : Nat) (c : Int) (a : Nat → Int), c.natAbs ≤ q → c ≠ 0 → (∀ j, j < r + m + 1 → c * v j = S (m + 1) (fun i => a i * shi r f i j)) → ∃ a' : Nat → Int, ∀ j, j < r + m + 1 → v j = S (m + 1) (fun i => a' i * shi r f i j)
  | 0, c, _, h, h0, _ => absurd (Int.natAbs_eq_zero.mp (by omega)) h0
  | q + 1, c, a, h, h0, e => by
    by_cases one : c.natAbs = 1
    · rcases Int.natAbs_eq c with z | z
      · refine ⟨a, fun j hj => ?_⟩
        have := e j hj
        rw [z, one] at this
        have this : 1 * v j = _ := this
        rw [Int.one_mul] at this
        exact this
      · refine ⟨fun i => - a i, fun j hj => ?_⟩
        have := e j hj
        rw [z, one] at this
        have this : (-1) * v j = _ := this
        rw [S_congr (g := fun i => (-1) * (a i * shi r f i j)) fun i _ => by rw [Int.neg_mul, Int.neg_mul, Int.one_mul], S_mul, ← this]
        omega
    · obtain ⟨p, p1, pd, pr⟩ := least_div (c := c.natAbs) (by omega)
      have pc : (p : Int) ∣ c := Int.ofNat_dvd_left.mpr pd
      have all := gauss_step pr pc (hf p p1) e
      obtain ⟨c', rfl⟩ := pc
      have p0 : (p : Int) ≠ 0 := by omega
      refine gaussS hf q c' (fun i => a i / p) ?_ (fun z => h0 (by rw [z, Int.mul_zero])) fun j hj => ?_
      · rw [Int.natAbs_mul, Int.natAbs_natCast] at h
        have c1 : 0 < c'.natAbs := by
          rcases Nat.eq_zero_or_pos c'.natAbs with z | z
          · exact absurd (by rw [Int.natAbs_eq_zero.mp z, Int.mul_zero]) h0
          · exact z
        have : c'.natAbs * 2 ≤ p * c'.natAbs := by
          rw [Nat.mul_comm]
          exact Nat.mul_le_mul_right _ p1
        omega
      · refine Int.eq_of_mul_eq_mul_left p0 ?_
        rw [← Int.mul_assoc, e j hj, ← S_mul]
        exact S_congr fun i hi => by rw [← Int.mul_assoc, Int.mul_ediv_cancel' (all i hi)]
end K65

set_option Elab.async false
set_option linter.all false
set_option maxRecDepth 100000
set_option maxHeartbeats 2000000
set_option exponentiation.threshold 10000
/-! plain: the two killers of a form -/
namespace K65
open PySem PySem.Spec PyProof.Rows L2 StX RZ MyR SlX OwnR OwnF EnumT GxR GenNx FDivQ LA
theorem cv_low {g : Nat → Int} {k : Nat} (h : ∀ j, j ≤ k → g j = 0) (l : List Int) : cv l g k = 0 := by
  rw [cv_congr (h := fun _ => 0) l k h, cv_zeroF]
theorem cv_take {g : Nat → Int} {f : Nat} (h : ∀ j, j < f → g j = 0) : ∀ (q : List Int) (i : Nat), i < q.length → cv q g (i + f) = cv (q.take i) g (i + f) + co q i * g f
  | [], i, hi => absurd hi (Nat.not_lt_zero i)
  | x :: xs, 0, _ => by
    show cv (x :: xs) g (0 + f) = 0 + x * g f
    rw [Nat.zero_add, Int.zero_add]
    cases f with
    | zero => exact cv_zero x xs g
    | succ f => rw [cv_succ, cv_low (fun j hj => h j (by omega)), Int.add_zero]
  | x :: xs, i + 1, hi => by
    rw [show i + 1 + f = (i + f) + 1 by omega, List.take_succ_cons, cv_succ, cv_succ, cv_take h xs i (by rw [List.length_cons] at hi; omega)]
    show _ = x * g (i + f + 1) + cv (xs.take i) g (i + f) + co xs i * g f
    omega
/-- who divides, finds the factor -/
theorem qd_self2 {q ys : List Int} (hq : q ≠ []) (hy : nzr ys = true) : qd (ml q ys) ys = some q := by
  have ny : ys ≠ [] := fun e => by rw [e] at hy; cases hy
  have lq := List.length_pos_iff.mpr hq
  have ly := List.length_pos_iff.mpr ny
  have lm := ml_len q ys
  have em : mny (ml q ys) ys = q.length := by unfold mny; omega
  have low : ∀ j, j < fi ys → co ys j = 0 := fun j hj => by
    have h1 : j < ys.findIdx (· != 0) := hj
    have := List.not_of_lt_findIdx h1
    have hl : j < ys.length := Nat.lt_trans hj (fi_lt hy)
    rw [co_get hl]
    simpa using this
  have key : ∀ i, i ≤ q.length → (∀ k, rmd (ml q ys) ys i k = cv q (co ys) k - cv (q.take i) (co ys) k) := by
    intro i
    induction i with
    | zero =>
      intro _ k
      show co (ml q ys) k = cv q (co ys) k - cv [] (co ys) k
      rw [co_ml ny, cv_nil, Int.sub_zero]
    | succ i ih =>
      intro hi k
      have ih := ih (by omega)
      have eq : quo (ml q ys) ys i = co q i := by
        unfold quo
        rw [ih, cv_take low q i (by omega)]
        have : cv (q.take i) (co ys) (i + fi ys) + co q i * co ys (fi ys) - cv (q.take i) (co ys) (i + fi ys) = co q i * co ys (fi ys) := by omega
        rw [this]
        exact Int.mul_fdiv_cancel _ (fi_ne hy)
      rw [rmd_succ, eq, ih, show q.take (i + 1) = q.take i ++ [co q i] by rw [co_get (by omega)]; exact (List.take_append_getElem (by omega)).symm, cv_snoc, List.length_take, Nat.min_eq_left (by omega)]
      omega
  have zero : ∀ k, rmd (ml q ys) ys (mny (ml q ys) ys) k = 0 := fun k => by
    rw [em, key _ (Nat.le_refl _), List.take_length]
    omega
  rw [qd_some (fun z => z.elim (fun w => by omega) fun w => ?_) (fun j hj => ?_) (nzr_tb0 zero)]
  · congr 1
    rw [em]
    refine co_inj (tb_len _ _) fun k => ?_
    rw [co_tb]
    by_cases hk : k < q.length
    · rw [if_pos hk]
      unfold quo
      rw [key k (by omega), cv_take low q k hk]
      have : cv (q.take k) (co ys) (k + fi ys) + co q k * co ys (fi ys) - cv (q.take k) (co ys) (k + fi ys) = co q k * co ys (fi ys) := by omega
      rw [this]
      exact Int.mul_fdiv_cancel _ (fi_ne hy)
    · rw [if_neg hk, co_far (by omega)]
  · obtain ⟨k, hk, hz⟩ := nzr_iff.mp w
    rw [List.length_take] at hk
    rw [co_take (by omega), co_ml ny, cv_low (fun j hj => low j (by omega))] at hz
    exact hz rfl
  · rw [em] at hj
    rw [rmd_lead]
    unfold quo
    rw [key j (by omega), cv_take low q j hj]
    have : cv (q.take j) (co ys) (j + fi ys) + co q j * co ys (fi ys) - cv (q.take j) (co ys) (j + fi ys) = co q j * co ys (fi ys) := by omega
    rw [this, Int.mul_fdiv_cancel _ (fi_ne hy)]
    omega
theorem cv_S (g : Nat → Int) : ∀ (P : List Int) (j : Nat), cv P g j = S P.length (fun i => co P i * (if i ≤ j then g (j - i) else 0))
  | [], j => rfl
  | x :: P, 0 => by
    rw [cv_zero]
    show _ = S (P.length + 1) _
    rw [S_head, S_zero fun i hi => by rw [if_neg (by omega), Int.mul_zero], Int.add_zero]
    rfl
  | x :: P, j + 1 => by
    rw [cv_succ, cv_S g P j]
    show _ = S (P.length + 1) _
    rw [S_head]
    congr 1
    exact S_congr fun i hi => by
      show co P i * _ = co (x :: P) (i + 1) * _
      rw [show co (x :: P) (i + 1) = co P i from rfl]
      congr 1
      by_cases c : i ≤ j
      · rw [if_pos c, if_pos (by omega), Nat.add_sub_add_right]
      · rw [if_neg c, if_neg (by omega)]
theorem co_mlS {P q : List Int} (hq : q ≠ []) (j : Nat) : co (ml P q) j = S P.length (fun i => co P i * shi (q.length - 1) (co q) i j) := by
  rw [co_ml hq, cv_S]
  refine S_congr fun i _ => ?_
  congr 1
  have h1 := List.length_pos_iff.mpr hq
  unfold shi
  by_cases c : i ≤ j
  · by_cases e : j - i ≤ q.length - 1
    · rw [if_pos c, if_pos ⟨c, e⟩]
    · rw [if_pos c, if_neg (fun z => e z.2), co_far (by omega)]
  · rw [if_neg c, if_neg fun z => c z.1]
/-- a form divides what is a sum of its shifts over the fractions, and nothing else -/
theorem qd_span {f l : List Int} {r m : Nat} (lf : f.length = r + 1) (ll : l.length = r + m + 1) (g1 : gl f = 1) (nz : nzr f = true) : (∃ q, qd l f = some q) ↔ Sp (r + m + 1) (m + 1) (shi r (co f)) (co l) := by
  have nf : f ≠ [] := fun e => by rw [e] at lf; cases lf
  constructor
  · rintro ⟨q, hq⟩
    have lq := qd_len hq
    have em : mny l f = m + 1 := by unfold mny; omega
    rw [em] at lq
    refine ⟨1, by decide, co q, fun j hj => ?_⟩
    rw [Int.one_mul, ← qd_ml nf hq, co_mlS nf, lq, lf]
    rfl
  · rintro ⟨c, hc, a, e⟩
    obtain ⟨a', e'⟩ := gaussS (f := co f) (v := co l) (r := r) (m := m) (fun p hp => Classical.byContradiction fun no => by
      have all : ∀ x ∈ f, p ∣ x.natAbs := fun x hx => by
        obtain ⟨j, hj, ej⟩ := mem_co hx
        have := Classical.byContradiction fun z => no ⟨j, by omega, z⟩
        rw [ej] at this
        exact Int.natAbs_dvd_natAbs.mpr this
      have := (gl_iff f 0).mpr ⟨Nat.dvd_zero p, all⟩
      have : p ∣ gl f := this
      rw [g1] at this
      have := Nat.le_of_dvd (by decide) this
      omega) c.natAbs c a (Nat.le_refl _) hc e
    refine ⟨tb (m + 1) a', ?_⟩
    have el : l = ml (tb (m + 1) a') f := by
      refine co_inj ?_ fun j => ?_
      · rw [ml_len, tb_len]; omega
      · rw [co_mlS nf, tb_len, lf]
        by_cases hj : j < r + m + 1
        · rw [e' j hj]
          exact S_congr fun i hi => by rw [co_tb, if_pos hi]; rfl
        · rw [co_far (by omega)]
          refine (S_zero fun i hi => ?_).symm
          show _ * shi (r + 1 - 1) (co f) i j = 0
          unfold shi
          rw [if_neg (fun z => by omega), Int.mul_zero]
    rw [el]
    exact qd_self2 (fun e => by have := congrArg List.length e; rw [tb_len] at this; cases this) nz
/-! ### the two killers -/
/-- the profile of a form other than 0 -/
structure Low (F : List Int) (n r q : Nat) : Prop where
  lF : F.length = n + 1
  hr : 1 ≤ r
  rq : r ≤ q
  hn : r + q = n + 2
  lo : ∀ d, d < r → kd F d = 0
  up : ∀ d, d < n + 1 → rk F d = min (d + 1) (min r (n + 1 - d))
  nz : ∃ k, k < F.length ∧ co F k ≠ 0
section
variable {F : List Int} {n r q : Nat}
theorem low_of (lF : F.length = n + 1) (nz : ∃ k, k < F.length ∧ co F k ≠ 0) : ∃ r q, Low F n r q := by
  obtain ⟨r, r1, r2, lo, _, _, pr⟩ := profile (by omega) nz
  exact ⟨r, n + 2 - r, lF, r1, by omega, by omega, lo, fun d hd => by rw [pr d (by omega), lF], nz⟩
theorem Low.kd (h : Low F n r q) {d : Nat} (hd : d ≤ n + 1) : K65.kd F d = if d < r then 0 else if d < q then d + 1 - r else 2 * d - n := by
  have := h.hn; have := h.rq; have := h.hr
  by_cases c : d < r
  · rw [if_pos c]; exact h.lo d c
  · rw [if_neg c]
    have e := rk_kd F d
    by_cases c1 : d < n + 1
    · rw [h.up d c1] at e
      split <;> omega
    · have ed : d = n + 1 := by omega
      subst ed
      have e0 : rk F (n + 1) = 0 := by
        have := ech_len_le less (lrows F (n + 1)) (n + 1 + 1)
        rw [lrows_len, h.lF] at this
        unfold rk
        omega
      rw [e0] at e
      rw [if_neg (by omega)]
      omega
/-- the first killer -/
def fk (F : List Int) (r : Nat) : List Int := (kern (lrows F r) (r + 1)).getD 0 []
/-- the second one -/
def sk (F f1 : List Int) (q : Nat) : List Int := ((kern (lrows F q) (q + 1)).find? fun g => (qd g f1).isNone).getD []
theorem kern_gl {rows : List (List Int)} {w : Nat} : ∀ t ∈ kern rows w, gl t = 1 ∧ nzr t = true := fun t ht => by
  have R := re_kern rows w
  have nz := R.nz t ht
  have e := R.pr t ht
  have g := gl_primE t
  rw [e] at g
  have g0 : gl t ≠ 0 := fun z => nz (gl_zero z _)
  refine ⟨by omega, nzr_iff.mpr ⟨ld t, ?_, nz⟩⟩
  rw [R.len t ht]
  exact R.lt t ht
structure Pair (F f1 f2 : List Int) (n r q : Nat) : Prop where
  low : Low F n r q
  l1 : f1.length = r + 1
  l2 : f2.length = q + 1
  m1 : f1 ∈ kern (lrows F r) (r + 1)
  m2 : f2 ∈ kern (lrows F q) (q + 1)
  n2 : qd f2 f1 = none
theorem fk_mem (h : Low F n r q) : fk F r ∈ kern (lrows F r) (r + 1) := by
  have := h.hn; have := h.rq; have := h.hr
  have k := h.kd (d := r) (by omega)
  rw [if_neg (Nat.lt_irrefl _)] at k
  have : 0 < (kern (lrows F r) (r + 1)).length := by
    show 0 < K65.kd F r
    rw [k]; split <;> omega
  exact mem_row this
theorem qd_none_iff {f l : List Int} {r m : Nat} (lf : f.length = r + 1) (ll : l.length = r + m + 1) (g1 : gl f = 1 ∧ nzr f = true) : qd l f = none ↔ ¬ Sp (r + m + 1) (m + 1) (shi r (co f)) (co l) := by
  rw [← qd_span lf ll g1.1 g1.2]
  cases qd l f with
  | none => exact ⟨fun _ ⟨q, e⟩ => (by cases e), fun _ => rfl⟩
  | some q => exact ⟨fun e => (by cases e), fun z => absurd ⟨q, rfl⟩ z⟩
theorem sk_some (h : Low F n r q) {f1 : List Int} (l1 : f1.length = r + 1) (m1 : f1 ∈ kern (lrows F r) (r + 1)) : ∃ g, (kern (lrows F q) (q + 1)).find? (fun g => (qd g f1).isNone) = some g := by
  have h1 := h.hn; have h2 := h.rq; have h3 := h.hr
  cases e : (kern (lrows F q) (q + 1)).find? (fun g => (qd g f1).isNone) with
  | some g => exact ⟨g, rfl⟩
  | none =>
    exfalso
    have all := List.find?_eq_none.mp e
    have K := ks (rows := lrows F q) (w := q + 1) lrows_w
    have k := h.kd (d := q) (by omega)
    rw [if_neg (by omega), if_neg (Nat.lt_irrefl _)] at k
    obtain ⟨m, rfl⟩ : ∃ m, q = r + m := ⟨q - r, by omega⟩
    have sp : ∀ i, i < (kern (lrows F (r + m)) (r + m + 1)).length → Sp (r + m + 1) (m + 1) (shi r (co f1)) (row (kern (lrows F (r + m)) (r + m + 1)) i) := fun i hi => by
      have mi := mem_row hi
      have := all _ mi
      have lm : ((kern (lrows F (r + m)) (r + m + 1)).getD i []).length = r + m + 1 := (re_kern _ _).len _ mi
      refine Classical.byContradiction fun z => this ?_
      have := (qd_none_iff l1 lm (kern_gl f1 m1)).mpr z
      rw [this]
      rfl
    have hl := steinitz K.ind sp
    have e : K65.kd F (r + m) = (kern (lrows F (r + m)) (r + m + 1)).length := rfl
    omega
theorem pair_of (h : Low F n r q) : Pair F (fk F r) (sk F (fk F r) q) n r q := by
  have m1 := fk_mem h
  have l1 : (fk F r).length = r + 1 := (re_kern _ _).len _ m1
  obtain ⟨g, e⟩ := sk_some h l1 m1
  have m2 := List.mem_of_find?_eq_some e
  have p2 := List.find?_some e
  have eg : sk F (fk F r) q = g := by unfold sk; rw [e]; rfl
  rw [eg]
  exact ⟨h, l1, (re_kern _ _).len _ m2, m1, m2, Option.isNone_iff_eq_none.mp p2⟩
/-- the first row that is no product, by its place -/
theorem sk_at {f1 g : List Int} {i : Nat} (hg : (kern (lrows F q) (q + 1))[i]? = some g) (n2 : qd g f1 = none) (lo : ∀ j, j < i → ∀ u, (kern (lrows F q) (q + 1))[j]? = some u → qd u f1 ≠ none) : g = sk F f1 q := by
  unfold sk
  obtain ⟨hi, e⟩ := List.getElem?_eq_some_iff.mp hg
  rw [(List.find?_eq_some_iff_getElem (p := fun g => (qd g f1).isNone) (b := g)).mpr ⟨by rw [n2]; rfl, i, hi, e, fun j hj => ?_⟩]
  · rfl
  · have := lo j hj _ (List.getElem?_eq_getElem (Nat.lt_trans hj hi))
    cases h : qd (kern (lrows F q) (q + 1))[j] f1 with
    | none => exact absurd h this
    | some _ => rfl
theorem sk_no (h : Low F n r q) {f1 : List Int} (l1 : f1.length = r + 1) (m1 : f1 ∈ kern (lrows F r) (r + 1)) (lo : ∀ (j : Nat) (u : List Int), (kern (lrows F q) (q + 1))[j]? = some u → qd u f1 ≠ none) : False := by
  obtain ⟨g, e⟩ := sk_some h l1 m1
  obtain ⟨j, hj, ej⟩ := List.getElem_of_mem (List.mem_of_find?_eq_some e)
  have p2 := List.find?_some e
  exact lo j g (by rw [List.getElem?_eq_getElem hj, ej]) (Option.isNone_iff_eq_none.mp p2)
variable {f1 f2 : List Int}
theorem Pair.two (h : Pair F f1 f2 n r q) : Two f1 f2 r q n := ⟨h.l1, h.l2, h.low.hr, Nat.le_trans h.low.hr h.low.rq, h.low.hn⟩
theorem kl_mem {d : Nat} {f : List Int} (h : f ∈ kern (lrows F d) (d + 1)) : Kl F d (co f) := kl_rows.mpr fun r hr => (ks lrows_w).dot f h r hr
theorem Pair.ns (h : Pair F f1 f2 n r q) : ¬ Sp (q + 1) (q - r + 1) (shi r (co f1)) (co f2) := by
  have := h.low.rq
  obtain ⟨m, rfl⟩ : ∃ m, q = r + m := ⟨q - r, by omega⟩
  rw [show r + m - r = m by omega]
  exact (qd_none_iff h.l1 h.l2 (kern_gl f1 h.m1)).mp h.n2
theorem Pair.nz1 (h : Pair F f1 f2 n r q) : ∃ p, p ≤ r ∧ co f1 p ≠ 0 := by
  obtain ⟨p, hp, z⟩ := nzr_iff.mp (kern_gl f1 h.m1).2
  exact ⟨p, by have := h.l1; omega, z⟩
theorem Pair.ap (h : Pair F f1 f2 n r q) : apB f1 f2 = true := by
  have h1 := h.low.hn; have h2 := h.low.rq; have h3 := h.low.hr
  refine two_apart h.low.lF h.low.hr h.low.rq h.low.hn h.l1 h.l2 (kl_mem h.m1) (kl_mem h.m2) h.nz1 h.ns h.low.lo ?_
  rw [h.low.kd (by omega), if_neg (by omega), if_neg (by omega)]
  omega
theorem Pair.wf (h : Pair F f1 f2 n r q) (n8 : n ≤ 8) : K65.wf f1 f2 = prim F := wf_back h.low.lF n8 h.two h.ap (kl_mem h.m1) (kl_mem h.m2) h.low.nz
theorem Pair.wf2 (h : Pair F f1 f2 n r q) (n8 : n ≤ 8) : K65.wf f2 f1 = prim F := wf_back h.low.lF n8 h.two.sw (by rw [sw_ap]; exact h.ap) (kl_mem h.m2) (kl_mem h.m1) h.low.nz
theorem shf_nil {g : List Int} {d : Nat} (h : d + 2 ≤ g.length) : shf g d = [] := by
  unfold shf
  rw [show d + 2 - g.length = 0 by omega]
  rfl
theorem shf_ind {g : List Int} {d : Nat} (hg : 1 ≤ g.length) (nz : ∃ p, p ≤ g.length - 1 ∧ co g p ≠ 0) : Ind (d + 1) (shf g d).length (row (shf g d)) := by
  by_cases c : d + 2 ≤ g.length
  · rw [shf_nil c]
    exact fun a _ i hi => absurd hi (Nat.not_lt_zero i)
  · obtain ⟨p0, hp0, q0⟩ := nz
    obtain ⟨p, hp, lo⟩ := leastE (p := fun j => co g j ≠ 0) p0 q0
    have hpr : p ≤ g.length - 1 := Classical.byContradiction fun c => lo p0 (by omega) q0
    have I := shifts_ind (m := d + 1 - g.length) hpr hp fun j hj => Classical.byContradiction fun z => lo j hj z
    rw [show g.length - 1 + (d + 1 - g.length) + 1 = d + 1 by omega] at I
    rw [shf_len, show d + 2 - g.length = d + 1 - g.length + 1 by omega]
    intro a ha
    refine I a fun j hj => ?_
    rw [← ha j hj]
    exact S_congr fun i hi => by rw [row_shf hg (by omega)]
theorem Pair.ind (h : Pair F f1 f2 n r q) : ∀ d, d ≤ n + 1 → Ind (d + 1) (urows f1 f2 d).length (row (urows f1 f2 d)) := fun d hd => by
  have h1 := h.low.hn; have h2 := h.low.rq; have h3 := h.low.hr; have l1 := h.l1; have l2 := h.l2
  by_cases c : d < q
  · have e : urows f1 f2 d = shf f1 d := by
      unfold urows
      rw [shf_nil (g := f2) (by omega), List.append_nil]
    rw [e]
    exact shf_ind (by omega) (by rw [l1]; exact h.nz1)
  · have key : ∀ k, k ≤ n + 1 - q → Ind (n + 1 - k + 1) (urows f1 f2 (n + 1 - k)).length (row (urows f1 f2 (n + 1 - k))) := fun k => by
      induction k with
      | zero =>
        intro _
        have := ap_ind h.two h.ap
        rw [Nat.sub_zero, len1 h.two]
        exact this
      | succ k ih =>
        intro hk
        have := ih (by omega)
        rw [show n + 1 - k = n + 1 - (k + 1) + 1 by omega] at this
        exact ind_less (by omega) (by omega) (by omega) (by omega) this
    have := key (n + 1 - d) (by omega)
    rw [show n + 1 - (n + 1 - d) = d by omega] at this
    exact this
/-- in each degree both make all killers -/
theorem Pair.rank (h : Pair F f1 f2 n r q) {d : Nat} (hd : d ≤ n + 1) : (ech less (urows f1 f2 d) (d + 1)).length = kd F d := by
  have h1 := h.low.hn; have h2 := h.low.rq; have h3 := h.low.hr
  rw [full_ind lePP urows_w (h.ind d hd), urows_len, h.l1, h.l2, h.low.kd hd]
  split
  · omega
  · split <;> omega
/-- the law's own test by ranks -/
theorem more_rank {g : List Int} (h : Low F n r q) (l1 : f1.length = r + 1) (m1 : f1 ∈ kern (lrows F r) (r + 1)) (lg : g.length = q + 1) : (shf f1 q).length < (ech less (shf f1 q ++ [g]) (q + 1)).length ↔ qd g f1 = none := by
  have h1 := h.hn; have h2 := h.rq; have h3 := h.hr
  obtain ⟨m, rfl⟩ : ∃ m, q = r + m := ⟨q - r, by omega⟩
  rw [qd_none_iff l1 lg (kern_gl f1 m1)]
  have nz : ∃ p, p ≤ f1.length - 1 ∧ co f1 p ≠ 0 := by
    obtain ⟨p, hp, z⟩ := nzr_iff.mp (kern_gl f1 m1).2
    exact ⟨p, by omega, z⟩
  have ls : (shf f1 (r + m)).length = m + 1 := by rw [shf_len]; omega
  have hw : ∀ t ∈ shf f1 (r + m) ++ [g], t.length = r + m + 1 := fun t ht => (List.mem_append.mp ht).elim (shf_w t) fun e => by rw [List.mem_singleton.mp e]; exact lg
  have ll : (shf f1 (r + m) ++ [g]).length = m + 2 := by rw [List.length_append, ls]; rfl
  have le := ech_len_le less (shf f1 (r + m) ++ [g]) (r + m + 1)
  have rw1 : ∀ i, i < m + 2 → row (shf f1 (r + m) ++ [g]) i = if i < m + 1 then shi r (co f1) i else co g := fun i hi => by
    unfold row
    rw [List.getD_eq_getElem?_getD]
    by_cases c : i < m + 1
    · rw [if_pos c, List.getElem?_append_left (by omega), ← List.getD_eq_getElem?_getD]
      have := row_shf (g := f1) (d := r + m) (i := i) (by omega) (by omega)
      rw [l1] at this
      exact this
    · rw [if_neg c, List.getElem?_append_right (by omega), ls, show i - (m + 1) = 0 by omega]
      rfl
  have i0 : Ind (r + m + 1) (m + 1) (shi r (co f1)) := by
    have := shf_ind (g := f1) (d := r + m) (by omega) nz
    rw [ls] at this
    intro a ha
    refine this a fun j hj => ?_
    rw [← ha j hj]
    exact S_congr fun i hi => by
      have := row_shf (g := f1) (d := r + m) (i := i) (by omega) (by omega)
      rw [this, l1]
      rfl
  rw [ls]
  constructor
  · intro hlt s
    have I := ind_full lePP hw (by omega)
    rw [ll] at I
    obtain ⟨c, hc, a, e⟩ := s
    have := I (fun i => if i < m + 1 then a i else -c) (fun j hj => by
      show S (m + 1) _ + _ = 0
      rw [S_congr (g := fun i => a i * shi r (co f1) i j) fun i hi => by rw [if_pos hi, rw1 i (by omega), if_pos hi], ← e j hj]
      dsimp only
      rw [if_neg (Nat.lt_irrefl _), rw1 (m + 1) (by omega), if_neg (Nat.lt_irrefl _)]
      show c * co g j + -c * co g j = 0
      rw [← Int.add_mul, Int.add_right_neg, Int.zero_mul]) (m + 1) (by omega)
    rw [if_neg (Nat.lt_irrefl _)] at this
    omega
  · intro ns
    have I := ind_snoc i0 ns
    have := full_ind lePP hw (by
      rw [ll]
      intro a ha
      refine I a fun j hj => ?_
      rw [← ha j hj]
      exact S_congr fun i hi => by rw [rw1 i hi])
    omega
end
end K65

set_option Elab.async false
set_option linter.all false
set_option maxRecDepth 100000
set_option maxHeartbeats 2000000
set_option exponentiation.threshold 20000
/-! sizes: the two killers, the form that they kill -/
namespace K65
open PySem PySem.Spec PyProof.Rows L2 StX RZ MyR SlX OwnR OwnF EnumT GxR GenNx FDivQ LA
abbrev MU : Nat := (10 * M8 + 1) ^ 4
abbrev KM : Nat := (18 * MU + 1) ^ 8
abbrev FM : Nat := 70 * KM
theorem nU20 : BdE 10 MU < 2 ^ 4470 := by decide +kernel
theorem nU2 : M8 ^ 9 < 2 ^ 4470 := by decide +kernel
theorem nU3 : BdE 1 (M8 ^ 9) < 2 ^ 4470 := by decide +kernel
theorem nQ' : MU < 2 ^ 4000 := by decide +kernel
theorem nQ : MU * (1 + MU) ^ 9 < 2 ^ 4000 := by decide +kernel
section
variable {f g : List Int} {a b n : Nat}
/-- forms of that size, that kill a form of level entries of a size -/
structure Sz (f g : List Int) : Prop where
  v : ∃ v : Nat → Int, (∃ j, j < f.length + g.length - 3 ∧ v j ≠ 0) ∧ (∀ j, (v j).natAbs ≤ M8) ∧ ∀ r ∈ urows f g (f.length + g.length - 4), S (f.length + g.length - 3) (fun j => v j * co r j) = 0
  f : ∀ x ∈ f, x.natAbs ≤ MU
  g : ∀ x ∈ g, x.natAbs ≤ MU
theorem Sz.sw (s : Sz f g) : Sz g f := ⟨by
  obtain ⟨v, h1, h2, h3⟩ := s.v
  rw [Nat.add_comm g.length f.length]
  exact ⟨v, h1, h2, fun r hr => h3 r ((List.mem_append.mp hr).elim (fun z => List.mem_append_right _ z) fun z => List.mem_append_left _ z)⟩, s.g, s.f⟩
theorem Sz.e (s : Sz f g) (h : Two f g a b n) (n8 : n ≤ 8) : EOk less (urows f g (n + 1)) (n + 2) ∧ EOk lless (urows f g (n + 1)) (n + 2) := by
  have num : BdE (urows f g (n + 1)).length MU < 2 ^ 4470 := Nat.lt_of_le_of_lt (Bd_mono (by rw [len1 h]; omega)) nU20
  exact ⟨eokP urows_w (urows_mem s.f s.g) num, eokL urows_w (urows_mem s.f s.g) num⟩
theorem Sz.ku (s : Sz f g) (h : Two f g a b n) (n8 : n ≤ 8) (c : apB f g = true) : KU (urows f g n) (n + 1) := by
  obtain ⟨v, h1, h2, h3⟩ := s.v
  rw [h.e4, show f.length + g.length - 3 = n + 1 by have := h.e4; have := h.e3; omega] at h3
  rw [show f.length + g.length - 3 = n + 1 by have := h.e4; have := h.e3; omega] at h1
  have M1 : 1 ≤ M8 := by decide
  refine kbT (M := MU) (B := M8) urows_w (rk_n h c) (urows_mem s.f s.g) (ech_small urows_w (rk_n h c) h1 h3 h2) (Nat.lt_of_le_of_lt (Bd_mono (by rw [len0 h]; omega)) nU20) M1 (Nat.lt_of_le_of_lt (Nat.pow_le_pow_right M1 (by omega)) nU2) (Nat.lt_of_le_of_lt ?_ nU3)
  unfold BdE
  rw [Nat.sub_self, Nat.pow_zero, Nat.one_mul, Nat.one_mul]
  have := Nat.pow_le_pow_right M1 (show n + 1 ≤ 9 by omega)
  rw [show 1 * ((2 * 1 * M8 ^ 9 + 1) ^ 0 * M8 ^ 9) = M8 ^ 9 by rw [Nat.pow_zero, Nat.one_mul, Nat.one_mul]]
  exact this
theorem WfS.kM {K F : List Int} {p : Int} (s : WfS f g K F n p) (z : Sz f g) (h : Two f g a b n) (n8 : n ≤ 8) (c : apB f g = true) (j : Nat) : (co K j).natAbs ≤ KM := by
  refine Nat.le_trans (kern_bd (rows := urows f g n) (w := n + 1) (M := MU) urows_w (urows_mem z.f z.g) K (by rw [s.kk]; exact List.mem_singleton.mpr rfl) j) ?_
  rw [rk_n h c]
  refine Nat.le_trans (Nat.pow_le_pow_left (m := 18 * MU + 1) (Nat.add_le_add_right (Nat.mul_le_mul_right _ (by omega)) 1) n) ?_
  exact Nat.pow_le_pow_right (Nat.succ_pos _) n8
theorem WfS.flM {K F : List Int} {p : Int} (s : WfS f g K F n p) (z : Sz f g) (h : Two f g a b n) (n8 : n ≤ 8) (c : apB f g = true) : ∀ x ∈ fl K n, x.natAbs ≤ FM := fun x hx => by
  obtain ⟨k, hk, e⟩ := mem_co hx
  rw [fl_len] at hk
  rw [← e, co_fl hk, Int.natAbs_mul, Int.natAbs_natCast]
  exact Nat.mul_le_mul (ch_le8 n n8 k (by omega)) (s.kM z h n8 c k)
theorem WfS.fM {K F : List Int} {p : Int} (s : WfS f g K F n p) (z : Sz f g) (h : Two f g a b n) (n8 : n ≤ 8) (c : apB f g = true) : ∀ x ∈ F, x.natAbs ≤ FM := by
  rw [s.ef]
  exact prim_mem (s.flM z h n8 c)
theorem FM_lt : FM < 2 ^ 3800 := by decide +kernel
theorem KM_lt : KM < 2 ^ 3000 := by decide +kernel
theorem FM_sm {x : Int} (h : x.natAbs ≤ FM) : sm x := Nat.lt_of_le_of_lt h (Nat.lt_trans FM_lt (by decide +kernel))
theorem MU_sm {x : Int} (h : x.natAbs ≤ MU) : sm x := Nat.lt_of_le_of_lt h (by decide +kernel)
theorem WfS.lw {K F : List Int} {p : Int} (s : WfS f g K F n p) (z : Sz f g) (h : Two f g a b n) (n8 : n ≤ 8) (c : apB f g = true) : Lw F := ⟨by rw [s.len]; omega, by rw [s.len]; omega, fun x hx => Nat.lt_of_le_of_lt (s.fM z h n8 c x hx) (Nat.lt_trans FM_lt (by decide +kernel))⟩
theorem WfS.rw {K F : List Int} {p : Int} (s : WfS f g K F n p) (z : Sz f g) (h : Two f g a b n) (n8 : n ≤ 8) (c : apB f g = true) : Rw F := ⟨ne_len s.len, by rw [s.len]; omega, fun x hx => FM_sm (s.fM z h n8 c x hx)⟩
theorem WfS.ac {K F u : List Int} {p : Int} (s : WfS f g K F n p) (z : Sz f g) (h : Two f g a b n) (n8 : n ≤ 8) (c : apB f g = true) (hu1 : 1 ≤ u.length) (hu : ∀ x ∈ u, x.natAbs ≤ MU) (hl : u.length ≤ F.length) : AcOk u F := by
  refine acOk_of hu1 hl (by rw [s.len]; omega) (fun k => MU_sm (coB hu k)) ?_
  refine Nat.le_trans (nm_le (s.fM z h n8 c)) (Nat.le_trans (Nat.mul_le_mul_right _ (show F.length ≤ 9 by rw [s.len]; omega)) ?_)
  decide +kernel
/-! ### the pair -/
structure Lv (F : List Int) (n : Nat) : Prop where
  n8 : n ≤ 8
  lF : F.length = n + 1
  bd : ∀ x ∈ F, x.natAbs ≤ 10 ^ 14
theorem Lv.lev {F : List Int} (h : Lv F n) (j : Nat) : (co (lev F) j).natAbs ≤ M8 := by
  by_cases c1 : j < F.length
  · rw [co_lev c1, Int.natAbs_mul, Int.natAbs_mul, Int.natAbs_natCast, Int.natAbs_natCast]
    have := h.lF; have := h.n8
    exact Nat.mul_le_mul (fc2_le (F.length - 1) (by omega) j (by omega)) (coB h.bd j)
  · rw [co_far (by rw [lev_len]; omega)]
    exact Nat.zero_le _
theorem Lv.rows {F : List Int} (h : Lv F n) {d : Nat} : ∀ r ∈ lrows F d, ∀ x ∈ r, x.natAbs ≤ M8 := fun r hr x hx => by
  obtain ⟨k, _, rfl⟩ := List.mem_map.mp hr
  obtain ⟨m, _, rfl⟩ := List.mem_map.mp hx
  exact h.lev _
theorem Lv.kb {F : List Int} (h : Lv F n) {d : Nat} (hd : d ≤ n + 1) : KB (lrows F d) (d + 1) := by
  have := h.lF; have := h.n8
  exact K65.kb lrows_w (by rw [lrows_len]; omega) (by omega) h.rows
theorem Lv.lw {F : List Int} (h : Lv F n) : Lw F := ⟨by rw [h.lF]; omega, by rw [h.lF]; have := h.n8; omega, fun x hx => Nat.lt_of_le_of_lt (h.bd x hx) (by decide +kernel)⟩
theorem Lv.kM {F : List Int} (h : Lv F n) {d : Nat} (hr : rk F d ≤ 4) : ∀ k ∈ kern (lrows F d) (d + 1), ∀ j, (co k j).natAbs ≤ MU := fun k hk j => by
  refine Nat.le_trans (kern_bd lrows_w h.rows k hk j) ?_
  refine Nat.le_trans (Nat.pow_le_pow_left (m := 10 * M8 + 1) (Nat.add_le_add_right (Nat.mul_le_mul_right _ ?_) 1) _) (Nat.pow_le_pow_right (Nat.succ_pos _) hr)
  show 2 * (rk F d + 1) ≤ 10
  omega
theorem Low.rk1 {F : List Int} {r q : Nat} (h : Low F n r q) (n8 : n ≤ 8) : rk F r ≤ 4 := by
  have h1 := h.hn; have h2 := h.rq; have h3 := h.hr
  have e := rk_kd F r
  rw [h.kd (d := r) (by omega), if_neg (Nat.lt_irrefl _)] at e
  split at e <;> omega
theorem Low.rk2 {F : List Int} {r q : Nat} (h : Low F n r q) (n8 : n ≤ 8) : rk F q ≤ 4 := by
  have h1 := h.hn; have h2 := h.rq; have h3 := h.hr
  have := ech_len_le less (lrows F q) (q + 1)
  rw [lrows_len, h.lF] at this
  unfold rk
  omega
theorem mem_of_co {M : Nat} {l : List Int} (h : ∀ j, (co l j).natAbs ≤ M) : ∀ x ∈ l, x.natAbs ≤ M := fun x hx => by
  obtain ⟨j, _, e⟩ := mem_co hx
  rw [← e]
  exact h j
theorem Pair.sz {F f1 f2 : List Int} {r q : Nat} (h : Pair F f1 f2 n r q) (L : Lv F n) : Sz f1 f2 := by
  refine ⟨⟨co (K65.lev F), ?_, L.lev, fun t ht => ?_⟩, mem_of_co (L.kM (h.low.rk1 L.n8) _ h.m1), mem_of_co (L.kM (h.low.rk2 L.n8) _ h.m2)⟩
  · obtain ⟨k, hk, z⟩ := lev_ne h.low.nz
    exact ⟨k, by have := h.two.e3; have := h.low.lF; omega, z⟩
  · rw [h.two.e4] at ht
    rw [show f1.length + f2.length - 3 = n + 1 by have := h.two.e3; omega]
    have one : ∀ {f : List Int} {d : Nat}, f.length = d + 1 → Kl F d (co f) → ∀ r ∈ shf f n, S (n + 1) (fun j => co (K65.lev F) j * co r j) = 0 := fun {f d} lf kl r hr => by
      obtain ⟨i, hi, rfl⟩ := List.mem_map.mp hr
      have hi := List.mem_range.mp hi
      rw [S_congr (g := fun j => shi d (co f) i j * co (K65.lev F) j) fun j _ => by
        rw [Int.mul_comm, co_shrow (by omega), lf]
        rfl, S_shi (by omega)]
      exact kl i (by have := h.low.lF; omega)
    exact (List.mem_append.mp ht).elim (one h.l1 (kl_mem h.m1) t) (one h.l2 (kl_mem h.m2) t)
theorem Lv.qd {F f1 g : List Int} {r q : Nat} (L : Lv F n) (h : Low F n r q) (m1 : f1 ∈ kern (lrows F r) (r + 1)) (mg : g ∈ kern (lrows F q) (q + 1)) : QdOk g f1 := by
  have h1 := h.hn; have h2 := h.rq; have h3 := h.hr; have n8 := L.n8
  have l1 : f1.length = r + 1 := (re_kern _ _).len _ m1
  have lg : g.length = q + 1 := (re_kern _ _).len _ mg
  have em : mny g f1 ≤ 9 := by
    unfold mny
    omega
  have hq : MU * (1 + MU) ^ mny g f1 < 2 ^ 4000 := Nat.lt_of_le_of_lt (Nat.mul_le_mul_left _ (Nat.pow_le_pow_right (Nat.le_add_right 1 MU) em)) nQ
  exact ⟨(kern_gl f1 m1).2, fun e => (by rw [e] at lg; exact Nat.succ_ne_zero _ lg.symm), by omega, by omega, MU, MU, mem_of_co (L.kM (h.rk2 n8) _ mg), mem_of_co (L.kM (h.rk1 n8) _ m1), nQ', hq⟩
/-- ranks of shifted forms with rows more -/
theorem eok_urows {rows : List (List Int)} {w : Nat} (hw : ∀ r ∈ rows, r.length = w) (hM : ∀ r ∈ rows, ∀ x ∈ r, x.natAbs ≤ MU) (hl : rows.length ≤ 10) : EOk less rows w ∧ EOk lless rows w := by
  have num : BdE rows.length MU < 2 ^ 4470 := Nat.lt_of_le_of_lt (Bd_mono hl) nU20
  exact ⟨eokP hw hM num, eokL hw hM num⟩
theorem Pair.ac {F f1 f2 : List Int} {r q : Nat} (h : Pair F f1 f2 n r q) (L : Lv F n) : (f1.length ≤ F.length → AcOk f1 F) ∧ (f2.length ≤ F.length → AcOk f2 F) := by
  have h1 := h.low.hn; have h2 := h.low.rq; have h3 := h.low.hr; have z := h.sz L; have lF := h.low.lF; have l1 := h.l1; have l2 := h.l2; have n8 := L.n8
  have one : ∀ {u : List Int}, 1 ≤ u.length → (∀ x ∈ u, x.natAbs ≤ MU) → u.length ≤ F.length → AcOk u F := fun {u} hu1 hu hl => by
    refine acOk_of hu1 hl (by omega) (fun k => Nat.lt_of_le_of_lt (coB hu k) (by decide +kernel)) ?_
    refine Nat.le_trans (nm_le L.bd) (Nat.le_trans (Nat.mul_le_mul_right _ (show F.length ≤ 9 by omega)) ?_)
    decide +kernel
  exact ⟨one (by omega) z.f, one (by omega) z.g⟩
end
end K65

set_option Elab.async false
set_option linter.all false
set_option maxRecDepth 100000
set_option maxHeartbeats 4000000
/-! products with all x ^ i y ^ j; whether two forms have a root in common; the form that two kill -/
namespace K65
open PySem PySem.Spec PyProof.Rows L2 StX RZ MyR SlX OwnR OwnF EnumT GxR GenNx FDivQ LA
section
variable {P : Program} {w : World} {K : PySem.W.Frag} {mg : Str → Option Value} {base : Heap} {Ps : List Addr}
def spShf : Sp := fun vs H Q _ => ∃ (a : Addr) (g : List Int) (d : Nat), vs = [.ref a, .int ((d + 2 - g.length : Nat))] ∧ H a = some (tp g) ∧ 1 ≤ g.length ∧ g.length ≤ d + 2 ∧ d ≤ 50 ∧ ∀ p bs H', Same H H' → H' p = some (.lst (bs.map V.ref)) → RT H' bs (shf g d) → Q (.ref p) H'
theorem ok_products_with (T : Facts K mg) : FnOk P w K mg base CX0 1 T.f_products_with T.fd_products_with ["entries", "many"] spShf := by
  refine T.F_products_with.ok sc_products_with (fun vs H Q E h => ?_) (fun cdv A outer s H vs Q E hr h => ?_)
  · obtain ⟨a, g, d, rfl, _⟩ := h
    rfl
  · obtain ⟨a, g, d, rfl, ha, l1, l2, d50, q⟩ := h
    refine ⟨_, (PSs.nox (pss_one (ps_ret (pe_lc (own := [("at", 2)]) (g := (gName 2)) (tt := tYes) (by rfl) sc_products_with.nd (pi_range1 (by rfl) T.z_range (pa_cons (pv 1) pa_nil)) (blkOk_by (N := N_products_with) (sc := defScope s_products_with) (by decide +kernel)) (fun _ _ _ _ _ => (pg_name (i := 2) sc_products_with.nd rfl (.inl rfl))) (fun _ _ _ _ _ => pts_nil) (fun _ _ _ _ _ => (pe_op (op_catA : OpR _ _ (rCatA K)) (pe_op (op_catA : OpR _ _ (rCatA K)) (pe_op (RepZ.op_rep0 : OpR _ _ (RepZ.rRep0 K)) (pe_tup (pa_cons pe_int pa_nil)) (pv 2)) (pv 0)) (pe_op (RepZ.op_rep0 : OpR _ _ (RepZ.rRep0 K)) (pe_tup (pa_cons pe_int pa_nil)) (pe_op op_sub (pe_op op_sub (pv 1) pe_int) (pv 2))))))))), ?_⟩
    generalize hm : d + 2 - g.length = m
    refine ⟨_, rfl, _, rfl, by omega, by omega, fun D hD => ?_⟩
    refine lc_rangeT (n := m) (f := fun i => List.replicate i 0 ++ g ++ List.replicate (d + 1 - g.length - i) 0) hD (by omega) (fun _ => rfl) (fun j H2 Q2 hj s2 kq => ?_) (fun bs H6 s6 d6 r6 => ?_)
    · have z1 : 1 ≤ sizeLine := by decide
      refine ⟨z1, fun p0 n0 => gen_upd H2 p0 (tp [0]) n0 fun H3 s3 f3 => ⟨_, rfl, RepZ.rep_any f3 rfl (by omega) fun p1 H4 s4 f4 => ⟨_, rfl, cat_rows f4 (s4 _ _ (s3 _ _ (s2 _ _ ha))) (by rw [List.length_replicate]; omega) fun p2 H5 s5 f5 => ⟨z1, fun p3 n3 => gen_upd H5 p3 (tp [0]) n3 fun H6 s6 f6 => ⟨_, rfl, _, _, rfl, rfl, _, rfl, _, _, rfl, rfl, RepZ.rep_any f6 (n := d + 1 - g.length - j) (by omega) (by omega) fun p4 H7 s7 f7 => cat_rows (s7 _ _ (s6 _ _ f5)) f7 (by rw [List.length_append, List.length_replicate, List.length_replicate]; omega) fun p5 H8 s8 f8 => kq p5 H8 (s3.trans (Same.trans s4 (s5.trans (s6.trans (Same.trans s7 s8))))) f8⟩⟩⟩⟩⟩
    · refine q D bs H6 s6 d6 ?_
      unfold shf
      rw [hm]
      exact r6
theorem tup_rep {p0 : Addr} {H : Hp} {n : Nat} {k : Int} {Q : VK} (h : H p0 = some (ls [0])) (hk : k = (n : Int)) (h2 : n ≤ 1000) (q : ∀ p H', Same H H' → H' p = some (tp (List.replicate n 0)) → Q (.ref p) H') : rRep (.ref p0) (.int k) H fun x H1 => kTup K x H1 Q := by
  subst hk
  refine ⟨p0, _, [.int 0], rfl, rfl, h, by omega, by omega, ?_, fun p1 n1 => .inl ⟨p1, _, rfl, SqL.of upd_same, fun p2 n2 => q p2 _ (fun b o e => same_upd0 n2 _ _ (same_upd0 n1 _ _ e)) ?_⟩⟩
  · rw [Int.toNat_natCast]
    show 1 * _ ≤ sizeLine
    have : 1000 ≤ sizeLine := by decide
    omega
  · rw [upd_same, Int.toNat_natCast, List.flatten_replicate_singleton, ← List.map_replicate]
theorem tup_tup {p : Addr} {H : Hp} {l : List Int} {Q : VK} (h : H p = some (tp l)) (q : Q (.ref p) H) : kTup K (.ref p) H Q := .inr ⟨p, _, rfl, SqT.of h, q⟩
def spShf2 : Sp := fun vs H Q _ => ∃ (a : Addr) (g : List Int) (d : Nat), vs = [.ref a, .int (d : Nat)] ∧ H a = some (tp g) ∧ 1 ≤ g.length ∧ g.length ≤ d + 2 ∧ d ≤ 50 ∧ ∀ p bs H', Same H H' → H' p = some (.lst (bs.map V.ref)) → RT H' bs (shf g d) → Q (.ref p) H'
theorem ok_law_shifted_forms (T : Facts K mg) : FnOk P w K mg base CX0 1 T.f_law_shifted_forms T.fd_law_shifted_forms ["_law_form_here", "_law_degree"] spShf2 := by
  refine T.F_law_shifted_forms.ok sc_law_shifted_forms (fun vs H Q E h => ?_) (fun cdv A outer s H vs Q E hr h => ?_)
  · obtain ⟨a, g, d, rfl, _⟩ := h
    rfl
  · obtain ⟨a, g, d, rfl, ha, l1, l2, d50, q⟩ := h
    refine ⟨_, (PSs.nox (pss_cons (ps_set (i := 2) sc_law_shifted_forms.nd rfl (.inr rfl) (pe_op op_add (pe_op op_sub (pv 1) (pe_callB call_len_seq (by rfl) T.z_len (by decide +kernel) (pa_cons (pv 0) pa_nil))) pe_int))
    (pss_one (ps_ret (pe_lc (own := [("_law_at", 3)]) (g := (gName 3)) (tt := tYes) (by rfl) sc_law_shifted_forms.nd (pi_range1 (by rfl) T.z_range (pa_cons (pe_op op_add (pv 2) pe_int) pa_nil)) (blkOk_by (N := N_law_shifted_forms) (sc := defScope s_law_shifted_forms) (by decide +kernel)) (fun _ _ _ _ _ => (pg_name (i := 3) sc_law_shifted_forms.nd rfl (.inl rfl))) (fun _ _ _ _ _ => pts_nil) (fun _ _ _ _ _ => (pe_op (op_catA : OpR _ _ (rCatA K)) (pe_op (op_catA : OpR _ _ (rCatA K)) (pe_tupleOf (by rfl) T.z_tuple (pe_op op_rep (pe_lst (pa_cons pe_int pa_nil)) (pv 3)) : PE _ _ (tThen _ (kTup K))) (pe_tupleOf (by rfl) T.z_tuple (pv 0) : PE _ _ (tThen _ (kTup K)))) (pe_tupleOf (by rfl) T.z_tuple (pe_op op_rep (pe_lst (pa_cons pe_int pa_nil)) (pe_op op_sub (pv 2) (pv 3))) : PE _ _ (tThen _ (kTup K)))))))))), ?_⟩
    refine ⟨_, rfl, _, rfl, a, _, rfl, .inr (SqT.of ha), ?_⟩
    rw [List.length_map]
    refine ⟨_, _, rfl, rfl, _, _, rfl, rfl, ?_⟩
    refine ⟨_, rfl, _, _, rfl, rfl, _, rfl, by omega, by omega, fun D hD => ?_⟩
    rw [show ((d : Int) - (g.length : Nat) + 1 + 1).toNat = d + 2 - g.length by omega]
    refine lc_rangeT (n := d + 2 - g.length) (f := fun i => List.replicate i 0 ++ g ++ List.replicate (d + 1 - g.length - i) 0) hD (by omega) (fun _ => rfl) (fun j H2 Q2 hj s2 kq => ?_) (fun bs H6 s6 d6 r6 => ?_)
    · have z1 : 1 ≤ sizeLine := by decide
      refine ⟨z1, fun p0 n0 => gen_upd H2 p0 (ls [0]) n0 fun H3 s3 f3 => ⟨_, rfl, tup_rep f3 rfl (by omega) fun p1 H4 s4 f4 => ⟨_, rfl, tup_tup (s4 _ _ (s3 _ _ (s2 _ _ ha))) (cat_rows f4 (s4 _ _ (s3 _ _ (s2 _ _ ha))) (by rw [List.length_replicate]; omega) fun p2 H5 s5 f5 => ⟨z1, fun p3 n3 => gen_upd H5 p3 (ls [0]) n3 fun H6 s6 f6 => ⟨_, rfl, _, rfl, _, _, rfl, rfl, tup_rep f6 (n := d + 1 - g.length - j) (by omega) (by omega) fun p4 H7 s7 f7 => cat_rows (s7 _ _ (s6 _ _ f5)) f7 (by rw [List.length_append, List.length_replicate, List.length_replicate]; omega) fun p5 H8 s8 f8 => kq p5 H8 (s3.trans (Same.trans s4 (s5.trans (s6.trans (Same.trans s7 s8))))) f8⟩⟩)⟩⟩⟩
    · exact q D bs H6 s6 d6 r6
def spLots : Sp := fun vs H Q _ => ∃ n k : Nat, vs = [.int n, .int k] ∧ k ≤ n ∧ n ≤ 50 ∧ Q (.int (ch n k)) H
theorem ch_le : ∀ n k : Nat, ch n k ≤ 2 ^ n
  | n, 0 => by rw [ch_zero]; exact Nat.one_le_two_pow
  | 0, k + 1 => Nat.zero_le _
  | n + 1, k + 1 => by
    show ch n k + ch n (k + 1) ≤ _
    have h1 := ch_le n k
    have h2 := ch_le n (k + 1)
    rw [Nat.pow_succ]
    omega
theorem sm_ch {n k : Nat} (h : n ≤ 50) : sm ((ch n k : Nat) : Int) := by
  show ((ch n k : Nat) : Int).natAbs < _
  rw [Int.natAbs_natCast]
  exact Nat.lt_of_le_of_lt (ch_le n k) (Nat.pow_lt_pow_right (by decide) (by omega))
theorem ok_lots_of (T : Facts K mg) : FnOk P w K mg base CX0 1 T.f_lots_of T.fd_lots_of ["many", "few"] spLots := by
  refine T.F_lots_of.ok sc_lots_of (fun vs H Q E h => ?_) (fun cdv A outer s H vs Q E hr h => ?_)
  · obtain ⟨n, k, rfl, _⟩ := h
    rfl
  · obtain ⟨n, k, rfl, hk, hn, q⟩ := h
    refine ⟨_, (PSs.nox (pss_cons (ps_set (i := 2) sc_lots_of.nd rfl (.inl rfl) pe_int)
    (pss_cons (ps_for PassesOwn.never (by rfl) (pi_range1 (by rfl) T.z_range (pa_cons (pv 1) pa_nil)) (pg_name (i := 3) sc_lots_of.nd rfl (.inl rfl))
      (pss_one (ps_set (i := 2) sc_lots_of.nd rfl (.inl rfl) (pe_op op_fdivZ (pe_op op_mulW (pv 2) (pe_op op_sub (pv 0) (pv 3))) (pe_op op_add (pv 3) pe_int)))))
    (pss_one (ps_ret (pv 2)))))), ?_⟩
    refine ⟨_, rfl, k, rfl, by omega, by omega, for_range (n := (k : Int).toNat) (fun i σ H' => ∃ y3, σ = [some (.int n), some (.int k), some (.int (ch n i)), y3] ∧ H' = H) ⟨none, by rw [ch_zero]; rfl, rfl⟩ (fun i σ H' hi hP => ?_) (fun σ H' hP => ?_)⟩
    · obtain ⟨y3, rfl, rfl⟩ := hP
      have e := ch_mul n i
      have hi1 : (0 : Int) + (i : Int) + 1 ≠ 0 := by omega
      refine ⟨_, rfl, _, rfl, _, rfl, _, _, rfl, rfl, _, _, rfl, rfl, sm_mul (sm_ch hn) (Nat.lt_of_le_of_lt (show ((n : Int) - (0 + (i : Int))).natAbs ≤ 50 by omega) (Nat.lt_of_lt_of_le (show 50 < 2 ^ 7 by decide) (Nat.pow_le_pow_right (by decide) (by decide)))), _, rfl, _, _, rfl, rfl, _, _, rfl, rfl, ⟨hi1, Nat.lt_trans (PySem.Flt.log2_lt_of (k := 10) (by decide) (by show ((0 : Int) + (i : Int) + 1).natAbs < 2 ^ 10; omega)) (by decide)⟩, some (.int (0 + (i : Int))), ?_, rfl⟩
      have e2 : (((ch n i : Nat) : Int) * ((n : Int) - (0 + (i : Int)))).fdiv (0 + (i : Int) + 1) = ((ch n (i + 1) : Nat) : Int) := by
        rw [Int.zero_add, ← e, Int.mul_fdiv_cancel _ (by omega)]
      show [some (V.int n), some (V.int k), some (V.int ((((ch n i : Nat) : Int) * ((n : Int) - (0 + (i : Int)))).fdiv (0 + (i : Int) + 1))), _] = _
      rw [e2]
    · obtain ⟨y3, rfl, rfl⟩ := hP
      rw [Int.toNat_natCast]
      exact ⟨_, rfl, q⟩
/-- rows of two lists -/
theorem rt_app {H : Hp} {as bs : List Addr} {A B : List (List Int)} (h : RT H as A) (g : RT H bs B) : RT H (as ++ bs) (A ++ B) := by
  induction as generalizing A with
  | nil =>
    cases A with
    | nil => exact g
    | cons => exact h.elim
  | cons a as ih =>
    cases A with
    | nil => exact h.elim
    | cons r A => exact ⟨h.1, ih h.2⟩
def spCom (Ps : List Addr) : Sp := fun vs H Q _ => ∃ (a b : Addr) (f g : List Int) (p q n : Nat), vs = [.ref a, .ref b] ∧ H a = some (tp f) ∧ H b = some (tp g) ∧ Two f g p q n ∧ n ≤ 8 ∧ Sz f g ∧ Tg Ps H ∧ ∀ H', Sts Ps H H' → Tg Ps H' → Q (.bl (!apB f g)) H'
theorem ok_have_common_root (T : Facts K mg) (TB_first_of : TabB base mg T.c_first_of T.P_first_of) (hP : T.P_first_of ∈ Ps) : FnOk P w K mg base CX0 5 T.f_have_common_root T.fd_have_common_root ["one", "other"] (spCom Ps) := by
  have G_products_with := ok_products_with (P := P) (w := w) (base := base) T
  have G_rank_of := ok_rank_of (P := P) (w := w) (base := base) T TB_first_of hP
  refine T.F_have_common_root.ok sc_have_common_root (fun vs H Q E h => ?_) (fun cdv A outer s H vs Q E hr h => ?_)
  · obtain ⟨a, b, f, g, p, q, n, rfl, _⟩ := h
    rfl
  · obtain ⟨a, b, f, g, p, q, n, rfl, ha, hb, two, n8, sz, t, k⟩ := h
    have h1 := two.hf; have h2 := two.hg; have h3 := two.hn; have h4 := two.ha; have h5 := two.hb
    refine ⟨_, (PSs.nox (pss_cons (ps_par (i := 2) (j := 3) (by rfl) sc_have_common_root.nd rfl rfl (by decide) rfl rfl (pa_cons (pe_op op_sub (pe_callB call_len_seq (by rfl) T.z_len (by decide +kernel) (pa_cons (pv 0) pa_nil)) pe_int) (pa_cons (pe_op op_sub (pe_callB call_len_seq (by rfl) T.z_len (by decide +kernel) (pa_cons (pv 1) pa_nil)) pe_int) pa_nil)) (by rfl))
    (pss_cons (ps_set (i := 4) sc_have_common_root.nd rfl (.inl rfl) (pe_op op_cat (pe_call G_products_with (hr.mono (by decide)) (by rfl) T.g_products_with T.F_products_with.kp T.b_products_with .nil pass0 (pa_cons (pv 0) (pa_cons (pv 3) pa_nil))) (pe_call G_products_with (hr.mono (by decide)) (by rfl) T.g_products_with T.F_products_with.kp T.b_products_with .nil pass0 (pa_cons (pv 1) (pa_cons (pv 2) pa_nil)))))
    (pss_one (ps_ret (pe_cmpR op_lt (pe_call G_rank_of hr (by rfl) T.g_rank_of T.F_rank_of.kp T.b_rank_of .nil pass0 (pa_cons (pv 4) (pa_cons (pe_op op_add (pv 2) (pv 3)) pa_nil))) (pe_op op_add (pv 2) (pv 3)) (nomark _))))))), ?_⟩
    refine ⟨_, rfl, a, _, rfl, .inr (SqT.of ha), _, _, rfl, rfl, _, rfl, b, _, rfl, .inr (SqT.of hb), _, _, rfl, rfl, _, _, rfl, ?_⟩
    refine ⟨_, rfl, _, rfl, a, f, n + 1, ?_, ha, by omega, by omega, by omega, fun pa as H1 s1 a1 r1 => ⟨_, rfl, _, rfl, b, g, n + 1, ?_, s1 _ _ hb, by omega, by omega, by omega, fun pb bs H2 s2 b2 r2 => ?_⟩⟩
    · show [V.ref a, V.int ((((g.map V.int).length : Nat) : Int) - 1)] ++ [] = _
      rw [List.length_map, show ((g.length : Nat) : Int) - 1 = ((n + 1 + 2 - f.length : Nat) : Int) by omega]
      rfl
    · show [V.ref b, V.int ((((f.map V.int).length : Nat) : Int) - 1)] ++ [] = _
      rw [List.length_map, show ((f.length : Nat) : Int) - 1 = ((n + 1 + 2 - g.length : Nat) : Int) by omega]
      rfl
    have la : as.length = n + 1 + 2 - f.length := by rw [r1.len]; exact shf_len _ _
    have lb : bs.length = n + 1 + 2 - g.length := by rw [r2.len]; exact shf_len _ _
    refine ⟨pa, pb, _, _, rfl, rfl, s2 _ _ a1, b2, ?_, fun pc nc => gen_upd H2 pc (.lst (as.map V.ref ++ bs.map V.ref)) nc fun H3 s3 c3 => ?_⟩
    · rw [List.length_map, List.length_map]
      exact Nat.le_of_lt (small1000 (n := as.length + bs.length) (by omega))
    rw [← List.map_append] at c3
    have r3 : RT H3 (as ++ bs) (urows f g (n + 1)) := rt_app (r1.same (s2.trans s3)) (r2.same s3)
    have s03 := s1.trans (s2.trans s3)
    refine ⟨_, rfl, _, rfl, _, rfl, _, _, rfl, rfl, pc, as ++ bs, urows f g (n + 1), n + 2, ?_, .inr c3, RX.imp (fun a r e => .inl e) r3, by rw [len1 two]; omega, by omega, urows_w, (sz.e two n8).1, t.same s03, fun H4 s4 t4 => ⟨_, rfl, _, rfl, _, _, rfl, rfl, _, _, rfl, rfl, ?_⟩⟩
    · show [V.ref pc, V.int ((((f.map V.int).length : Nat) : Int) - 1 + ((((g.map V.int).length : Nat) : Int) - 1))] ++ [] = _
      rw [List.length_map, List.length_map, show ((f.length : Nat) : Int) - 1 + (((g.length : Nat) : Int) - 1) = ((n + 2 : Nat) : Int) by omega]
      rfl
    · have q1 := k H4 ((Sts.of s03).trans s4) t4
      rw [List.length_map, List.length_map, show ((f.length : Nat) : Int) - 1 + (((g.length : Nat) : Int) - 1) = ((n + 2 : Nat) : Int) by omega]
      have r8 := ech_len_le less (urows f g (n + 1)) (n + 2)
      rw [len1 two] at r8
      have e : decide ((((ech less (urows f g (n + 1)) (n + 2)).length : Nat) : Int) < ((n + 2 : Nat) : Int)) = !apB f g := by
        rw [ap_of two]
        by_cases c : (ech less (urows f g (n + 1)) (n + 2)).length = n + 2
        · rw [decide_eq_true c, decide_eq_false (by omega)]
          rfl
        · rw [decide_eq_false c, decide_eq_true (by omega)]
          rfl
      show Q (V.bl (decide ((((ech less (urows f g (n + 1)) (n + 2)).length : Nat) : Int) < ((n + 2 : Nat) : Int)))) H4
      rw [e]
      exact q1
end
end K65

set_option Elab.async false
set_option linter.all false
set_option maxRecDepth 100000
set_option maxHeartbeats 4000000
set_option exponentiation.threshold 10000
/-! primitive entries of a list -/
namespace K65
open PySem PySem.Spec PyProof.Rows L2 StX RZ MyR SlX OwnR OwnF EnumT GxR GenNx FDivQ LA
section
variable {P : Program} {w : World} {K : PySem.W.Frag} {mg : Str → Option Value} {base : Heap}
def spSignedL : Sp := fun vs H Q _ => ∃ (t : Addr) (ns : List Int), vs = [.ref t] ∧ H t = some (ls ns) ∧ ns.length ≤ 1000 ∧ (∀ x ∈ ns, sm x) ∧ ∀ H', Same H H' → Q (.int (part ns)) H'
theorem ok_signed_contentL (T : Facts K mg) : FnOk P w K mg base CX0 1 T.f_signed_content T.fd_signed_content ["entries"] spSignedL := by
  refine T.F_signed_content.ok sc_signed_content (fun vs H Q E h => ?_) (fun cdv A outer s H vs Q E hr h => ?_)
  · obtain ⟨t, ns, rfl, _⟩ := h
    rfl
  · obtain ⟨t, ns, rfl, ht, hl, hs, q⟩ := h
    refine ⟨_, (PSs.nox (pss_cons (ps_asg (pe_tup (pa_cons pe_int (pa_cons pe_int pa_nil))) (pg_tup (by rfl) (pgs_cons (pg_name (i := 1) sc_signed_content.nd rfl (.inl rfl)) (pgs_cons (pg_name (i := 2) sc_signed_content.nd rfl (.inl rfl)) pgs_nil))))
    (pss_cons (ps_for PassesOwn.never (by rfl) (pi_range3 (by rfl) T.z_range (pa_cons (pe_op op_sub (pe_callB call_len_seq (by rfl) T.z_len (by decide +kernel) (pa_cons (pv 0) pa_nil)) pe_int) (pa_cons (pe_un un_neg pe_int) (pa_cons (pe_un un_neg pe_int) pa_nil)))) (pg_name (i := 3) sc_signed_content.nd rfl (.inl rfl))
      (pss_cons (ps_set (i := 1) sc_signed_content.nd rfl (.inl rfl) (pe_callBfun cr_gcd (by rfl) T.m_gcd (pa_cons (pv 1) (pa_cons (pe_ix ix_list (pv 0) (pv 3) (fun _ _ => rfl)) pa_nil))))
      (pss_one (ps_if (pt_cmpR op_ne (pe_ix ix_list (pv 0) (pv 3) (fun _ _ => rfl)) pe_int (nomark _))
        (pss_one (ps_set (i := 2) sc_signed_content.nd rfl (.inl rfl) (pe_ifExp (pt_cmpR op_gt (pe_ix ix_list (pv 0) (pv 3) (fun _ _ => rfl)) pe_int (nomark _)) pe_int (pe_un un_neg pe_int))))
        pss_nil))))
    (pss_one (ps_ret (pe_op op_mulW (pv 1) (pv 2))))))), ?_⟩
    refine ⟨(by show 2 ≤ sizeLine; decide), fun p0 n0 => gen_upd H p0 (.tup [.int 0, .int 1]) n0 fun H1 s1 f1 => ?_⟩
    refine ⟨p0, _, rfl, SqT.of f1, rfl, _, _, rfl, _, _, rfl, rfl, ?_⟩
    have ht1 := s1 _ _ ht
    refine ⟨_, rfl, t, _, rfl, .inl (SqL.of ht1), ?_⟩
    rw [List.length_map]
    have eR : RgC ((ns.length : Int) - 1) (-1) (-1) ns.length := by
      have := RgC.neg (i := (ns.length : Int) - 1) (j := -1) (by omega) (by omega) (by omega) (by omega)
      rw [show ((ns.length : Int) - 1 - -1).toNat = ns.length by omega] at this
      exact this
    refine ⟨_, _, rfl, rfl, _, rfl, _, rfl, (ns.length : Int) - 1, -1, -1, ns.length, rfl, eR, for_rangeC (n := ns.length) (fun j σ H' => ∃ y3, σ = [some (.ref t), some (.int ((cont (ns.drop (ns.length - j)) : Nat) : Int)), some (.int (sg (ns.drop (ns.length - j)))), y3] ∧ H' = H1) ⟨none, ?_, rfl⟩ (fun j σ H' hj hP => ?_) (fun σ H' hP => ?_)⟩
    · rw [Nat.sub_zero, List.drop_length]
      rfl
    · obtain ⟨y3, rfl, rfl⟩ := hP
      have e : (ns.length : Int) - 1 + ((j : Nat) : Int) * -1 = ((ns.length - 1 - j : Nat) : Int) := by omega
      have hlt : ns.length - 1 - j < ns.length := by omega
      have ed : ns.drop (ns.length - (j + 1)) = co ns (ns.length - 1 - j) :: ns.drop (ns.length - j) := by
        rw [show ns.length - (j + 1) = ns.length - 1 - j by omega, List.drop_eq_getElem_cons hlt, co_get hlt, show ns.length - 1 - j + 1 = ns.length - j by omega]
      rw [ed]
      generalize ns.drop (ns.length - j) = rest
      have hx := at_of e (get_int hlt)
      generalize co ns (ns.length - 1 - j) = x at hx
      refine ⟨_, rfl, _, rfl, _, rfl, t, _, _, _, rfl, rfl, SqL.of ht1, hx, _, _, rfl, ?_⟩
      refine ⟨_, rfl, _, rfl, t, _, _, _, rfl, rfl, SqL.of ht1, hx, rfl, _, rfl, ?_⟩
      have ec : ((Nat.gcd (((cont rest : Nat) : Int)).natAbs x.natAbs : Nat) : Int) = ((cont (x :: rest) : Nat) : Int) := by
        rw [Int.natAbs_natCast, Nat.gcd_comm]
        rfl
      by_cases c : x = 0
      · rw [decide_eq_true (show V.int x = V.int 0 by rw [c])]
        have es : sg (x :: rest) = sg rest := by
          show (if x = 0 then sg rest else _) = _
          rw [if_pos c]
        refine iteF ⟨some (.int ((ns.length : Int) - 1 + ((j : Nat) : Int) * -1)), ?_, rfl⟩
        rw [← ec, es]
        rfl
      · rw [decide_eq_false fun z => c (V.int.inj z)]
        refine iteT ⟨_, rfl, _, rfl, t, _, _, _, rfl, rfl, SqL.of ht1, hx, x, 0, rfl, rfl, _, rfl, ?_⟩
        by_cases d : 0 < x
        · rw [decide_eq_true d]
          have es : sg (x :: rest) = 1 := by
            show (if x = 0 then sg rest else if 0 < x then 1 else -1) = _
            rw [if_neg c, if_pos d]
          refine iteT ⟨some (.int ((ns.length : Int) - 1 + ((j : Nat) : Int) * -1)), ?_, rfl⟩
          rw [← ec, es]
          rfl
        · rw [decide_eq_false d]
          have es : sg (x :: rest) = -1 := by
            show (if x = 0 then sg rest else if 0 < x then 1 else -1) = _
            rw [if_neg c, if_neg d]
          refine iteF ⟨_, rfl, some (.int ((ns.length : Int) - 1 + ((j : Nat) : Int) * -1)), ?_, rfl⟩
          rw [← ec, es]
          rfl
    · obtain ⟨y3, rfl, rfl⟩ := hP
      rw [Nat.sub_self, List.drop_zero]
      refine ⟨_, rfl, _, rfl, _, _, rfl, rfl, sm_mul (show sm (((cont ns : Nat)) : Int) by show (((cont ns : Nat)) : Int).natAbs < _; rw [Int.natAbs_natCast]; exact sm_cont hs) ?_, q _ s1⟩
      rcases sg_cases ns with e | e <;> rw [e] <;> (show (_ : Nat) < 2 ^ 4000; decide)
def spPrimIL : Sp := fun vs H Q _ => ∃ (t : Addr) (ns : List Int), vs = [.ref t] ∧ H t = some (ls ns) ∧ part ns ≠ 0 ∧ ns.length ≤ 1000 ∧ (∀ x ∈ ns, sm x) ∧ ∀ p H', Same H H' → H' p = some (tp (prim ns)) → Q (.ref p) H'
theorem ok_primitive_inL (T : Facts K mg) : FnOk P w K mg base CX0 2 T.f_primitive_in T.fd_primitive_in ["entries"] spPrimIL := by
  have G_signed_content : FnOk P w K mg base CX0 1 T.f_signed_content T.fd_signed_content ["entries"] spSignedL := ok_signed_contentL T
  refine T.F_primitive_in.ok sc_primitive_in (fun vs H Q E h => ?_) (fun cdv A outer s H vs Q E hr h => ?_)
  · obtain ⟨t, ns, rfl, _⟩ := h
    rfl
  · obtain ⟨t, ns, rfl, ht, c, hl, hs, q⟩ := h
    refine ⟨_, (PSs.nox (pss_cons (ps_set (i := 1) sc_primitive_in.nd rfl (.inr rfl) (pe_call G_signed_content hr (by rfl) T.g_signed_content T.F_signed_content.kp T.b_signed_content .nil pass0 (pa_cons (pv 0) pa_nil)))
    (pss_one (ps_ret (pe_ifExp (pt_cmpR op_eq (pv 1) pe_int (nomark _)) (pv 0) (pe_tupleOf (by rfl) T.z_tuple (pe_lc (own := [("at", 2)]) (g := (gName 2)) (tt := tYes) (by rfl) sc_primitive_in.nd (pi_range1 (by rfl) T.z_range (pa_cons (pe_callB call_len_seq (by rfl) T.z_len (by decide +kernel) (pa_cons (pv 0) pa_nil)) pa_nil)) (blkOk_by (N := N_primitive_in) (sc := defScope s_primitive_in) (by decide +kernel)) (fun _ _ _ _ _ => (pg_name (i := 2) sc_primitive_in.nd rfl (.inl rfl))) (fun _ _ _ _ _ => pts_nil) (fun _ _ _ _ _ => (pe_op op_fdivZ (pe_ix (ix_list : IxR _ (rIxL K)) (pv 0) (pv 2) (fun _ _ => rfl)) (pv 1)))))))))), ?_⟩
    refine ⟨_, rfl, t, ns, rfl, ht, hl, hs, fun H1 s1 => ⟨_, rfl, rfl, _, rfl, ?_⟩⟩
    have ht1 := s1 _ _ ht
    · rw [decide_eq_false fun z => c (V.int.inj z)]
      refine iteF ⟨_, rfl, t, _, rfl, .inl (SqL.of ht1), ?_⟩
      rw [List.length_map]
      have hp := sm_part hs
      have hcd : CDivZ 0 (part ns) := ⟨c, Nat.lt_trans (PySem.Flt.log2_lt_of (k := 4000) (by decide) hp) (by decide)⟩
      refine ⟨ns.length, rfl, by omega, by omega, fun D hD => lc_range (n := (ns.length : Int).toNat) (fun j H' => H' = upd H1 D (.lst (tab j fun k => (co ns k).fdiv (part ns)))) rfl (fun j H' hj hP => ?_) (fun H' hP => ?_)⟩
      · subst hP
        have hj2 : j < ns.length := by omega
        have e : (0 : Int) + (j : Int) = ((j : Nat) : Int) := by omega
        refine ⟨rfl, ⟨_, rfl, _, rfl, t, _, _, _, rfl, rfl, SqL.of (same_upd0 hD _ _ ht1), at_of e (get_int hj2), _, rfl, _, _, rfl, rfl, hcd, _, upd_same, ?_, ?_⟩⟩
        · rw [tab_len]
          exact small1000 (by omega)
        · rw [upd_upd]
          unfold tab
          rw [List.range_succ, List.map_append]
          rfl
      · subst hP
        refine .inl ⟨D, _, rfl, SqL.of upd_same, fun p hp2 => ?_⟩
        refine q p _ (s1.trans ((same_upd0 hD).trans (same_upd0 hp2))) ?_
        rw [upd_same, Int.toNat_natCast, tab_tb]
        unfold prim
        rw [if_neg c]
        show some (HO.tup ((tb ns.length fun k => (co ns k).fdiv (part ns)).map V.int)) = some (HO.tup ((ns.map fun x => x.fdiv (part ns)).map V.int))
        rw [tb_map (fun x => x.fdiv (part ns)) ns]
end
end K65

set_option Elab.async false
set_option linter.all false
set_option maxRecDepth 100000
set_option maxHeartbeats 4000000
set_option exponentiation.threshold 10000
/-! the form that two kill, told and refused -/
namespace K65
open PySem PySem.Spec PyProof.Rows L2 StX RZ MyR SlX OwnR OwnF EnumT GxR GenNx FDivQ LA
section
variable {P : Program} {w : World} {K : PySem.W.Frag} {mg : Str → Option Value} {base : Heap} {Ps : List Addr}
def spKByIn (Ps : List Addr) : Sp := fun vs H Q _ => ∃ (a b : Addr) (f g : List Int) (p q n : Nat), vs = [.ref a, .ref b] ∧ H a = some (tp f) ∧ H b = some (tp g) ∧ Two f g p q n ∧ n ≤ 8 ∧ Sz f g ∧ apB f g = true ∧ Tg Ps H ∧ ∀ r H', Sts Ps H H' → Tg Ps H' → H' r = some (tp (wf f g)) → Q (.ref r) H'
theorem ok_killed_by_in (T : Facts K mg) (TB_first_of : TabB base mg T.c_first_of T.P_first_of) (hP : T.P_first_of ∈ Ps) : FnOk P w K mg base CX0 5 T.f_killed_by_in T.fd_killed_by_in ["one", "other"] (spKByIn Ps) := by
  have G_products_with := ok_products_with (P := P) (w := w) (base := base) T
  have G_kernel_rows := ok_kernel_rows (P := P) (w := w) (base := base) T TB_first_of hP
  have G_primitive_in := ok_primitive_inL (P := P) (w := w) (base := base) T
  have G_lots_of := ok_lots_of (P := P) (w := w) (base := base) T
  refine T.F_killed_by_in.ok sc_killed_by_in (fun vs H Q E h => ?_) (fun cdv A outer s H vs Q E hr h => ?_)
  · obtain ⟨a, b, f, g, p, q, n, rfl, _⟩ := h
    rfl
  · obtain ⟨a, b, f, g, p, q, n, rfl, ha, hb, two, n8, sz, ap, t, k⟩ := h
    have h1 := two.hf; have h2 := two.hg; have h3 := two.hn; have h4 := two.ha; have h5 := two.hb
    obtain ⟨Kr, F, pt, W⟩ := wf_spec two n8 ap
    have ku := sz.ku two n8 ap
    refine ⟨_, (PSs.nox (pss_cons (ps_set (i := 2) sc_killed_by_in.nd rfl (.inr rfl) (pe_op op_sub (pe_op op_add (pe_callB call_len_seq (by rfl) T.z_len (by decide +kernel) (pa_cons (pv 0) pa_nil)) (pe_callB call_len_seq (by rfl) T.z_len (by decide +kernel) (pa_cons (pv 1) pa_nil))) pe_int))
    (pss_cons (ps_set (i := 3) sc_killed_by_in.nd rfl (.inl rfl) (pe_op op_cat (pe_call G_products_with (hr.mono (by decide)) (by rfl) T.g_products_with T.F_products_with.kp T.b_products_with .nil pass0 (pa_cons (pv 0) (pa_cons (pe_op op_sub (pe_op op_add (pv 2) pe_int) (pe_callB call_len_seq (by rfl) T.z_len (by decide +kernel) (pa_cons (pv 0) pa_nil))) pa_nil))) (pe_call G_products_with (hr.mono (by decide)) (by rfl) T.g_products_with T.F_products_with.kp T.b_products_with .nil pass0 (pa_cons (pv 1) (pa_cons (pe_op op_sub (pe_op op_add (pv 2) pe_int) (pe_callB call_len_seq (by rfl) T.z_len (by decide +kernel) (pa_cons (pv 1) pa_nil))) pa_nil)))))
    (pss_cons (ps_set (i := 4) sc_killed_by_in.nd rfl (.inl rfl) (pe_ix ix_list (pe_call G_kernel_rows hr (by rfl) T.g_kernel_rows T.F_kernel_rows.kp T.b_kernel_rows .nil pass0 (pa_cons (pv 3) (pa_cons (pe_op op_add (pv 2) pe_int) pa_nil))) pe_int (fun _ _ => rfl)))
    (pss_one (ps_ret (pe_call G_primitive_in (hr.mono (by decide)) (by rfl) T.g_primitive_in T.F_primitive_in.kp T.b_primitive_in .nil pass0 (pa_cons (pe_lc (own := [("at", 5), ("entry", 6)]) (g := (gTup K 2 (gCons (gName 5) (gCons (gName 6) gNil)))) (tt := tYes) (by rfl) sc_killed_by_in.nd (pi_enum (by rfl) T.z_enumerate (pa_cons (pv 4) pa_nil)) (blkOk_by (N := N_killed_by_in) (sc := defScope s_killed_by_in) (by decide +kernel)) (fun _ _ _ _ _ => (pg_tup (by rfl) (pgs_cons (pg_name (i := 5) sc_killed_by_in.nd rfl (.inl rfl)) (pgs_cons (pg_name (i := 6) sc_killed_by_in.nd rfl (.inl rfl)) pgs_nil)))) (fun _ _ _ _ _ => pts_nil) (fun _ _ _ _ _ => (pe_op op_mulW (pe_call G_lots_of (hr.mono (by decide)) (by rfl) T.g_lots_of T.F_lots_of.kp T.b_lots_of .nil pass0 (pa_cons (pv 2) (pa_cons (pv 5) pa_nil))) (pv 6)))) pa_nil)))))))), ?_⟩
    refine ⟨_, rfl, a, _, rfl, .inr (SqT.of ha), _, rfl, b, _, rfl, .inr (SqT.of hb), _, _, rfl, rfl, _, _, rfl, rfl, ?_⟩
    dsimp only
    rw [List.length_map, List.length_map, show (((f.length : Nat) : Int) + ((g.length : Nat) : Int) - 4) = ((n : Nat) : Int) by omega]
    refine ⟨_, rfl, _, rfl, _, _, rfl, rfl, _, rfl, a, _, rfl, .inr (SqT.of ha), ?_⟩
    rw [List.length_map]
    refine ⟨_, _, rfl, rfl, a, f, n, ?_, ha, by omega, by omega, by omega, fun pa as H1 s1 a1 r1 => ⟨_, rfl, _, rfl, _, _, rfl, rfl, _, rfl, b, _, rfl, .inr (SqT.of (s1 _ _ hb)), ?_⟩⟩
    · show [V.ref a, V.int (((n : Nat) : Int) + 2 - ((f.length : Nat) : Int))] ++ [] = _
      rw [show ((n : Nat) : Int) + 2 - ((f.length : Nat) : Int) = ((n + 2 - f.length : Nat) : Int) by omega]
      rfl
    rw [List.length_map]
    refine ⟨_, _, rfl, rfl, b, g, n, ?_, s1 _ _ hb, by omega, by omega, by omega, fun pb bs H2 s2 b2 r2 => ?_⟩
    · show [V.ref b, V.int (((n : Nat) : Int) + 2 - ((g.length : Nat) : Int))] ++ [] = _
      rw [show ((n : Nat) : Int) + 2 - ((g.length : Nat) : Int) = ((n + 2 - g.length : Nat) : Int) by omega]
      rfl
    have la : as.length = n + 2 - f.length := by rw [r1.len]; exact shf_len _ _
    have lb : bs.length = n + 2 - g.length := by rw [r2.len]; exact shf_len _ _
    refine ⟨pa, pb, _, _, rfl, rfl, s2 _ _ a1, b2, ?_, fun pc nc => gen_upd H2 pc (.lst (as.map V.ref ++ bs.map V.ref)) nc fun H3 s3 c3 => ?_⟩
    · rw [List.length_map, List.length_map]
      exact Nat.le_of_lt (small1000 (n := as.length + bs.length) (by omega))
    rw [← List.map_append] at c3
    have r3 : RT H3 (as ++ bs) (urows f g n) := rt_app (r1.same (s2.trans s3)) (r2.same s3)
    have s03 := s1.trans (s2.trans s3)
    refine ⟨_, rfl, _, rfl, _, _, rfl, rfl, pc, as ++ bs, urows f g n, n + 1, ?_, .inr c3, RX.imp (fun a r e => .inl e) r3, by rw [len0 two]; omega, by omega, urows_w, ku.e, ku.t, ku.k, ku.e2, t.same s03, fun pk ks H4 s4 t4 e4 r4 => ?_⟩
    · rfl
    have r4 : RR H4 ks (kern (urows f g n) (n + 1)) := r4
    rw [W.kk] at r4
    match ks, r4 with
    | [k0], r4 =>
      have k4 : H4 k0 = some (ls Kr) := r4.1
      have S4 := (Sts.of (Ps := Ps) s03).trans s4
      refine ⟨pk, _, 0, _, rfl, rfl, SqL.of e4, rfl, ?_⟩
      refine ⟨_, rfl, k0, _, rfl, SqL.of k4, fun D hD => lc_enumL (xs := Kr.map V.int) (fun j H' => Same H4 H' ∧ H' D = some (.lst (tab j fun k => (ch n k : Int) * co Kr k))) ⟨same_upd0 hD, upd_same⟩ (fun j H' _ hP => SqL.of (hP.1 _ _ k4)) (fun j x B H' hx hP hB => ?_) (fun H5 hP => ?_)⟩
      · obtain ⟨sH, hL⟩ := hP
        obtain ⟨hj, rfl⟩ := int_get hx
        rw [W.kl] at hj
        refine gen_upd H' B _ hB fun H6 s6 f6 => ⟨B, _, rfl, SqT.of f6, rfl, _, _, rfl, _, _, rfl, rfl, rfl, ?_⟩
        refine ⟨_, rfl, _, rfl, n, j, rfl, by omega, by omega, _, rfl, _, _, rfl, rfl, sm_mul (sm_ch (by omega)) (Nat.lt_of_le_of_lt (W.kM sz two n8 ap j) (Nat.lt_trans KM_lt (by decide +kernel))), _, s6 _ _ hL, ?_, fun b o e => ?_, ?_⟩
        · rw [tab_len]
          exact small1000 (by omega)
        · rw [upd_ne (ne_of_none e hD)]
          exact s6 _ _ (sH _ _ e)
        · rw [upd_same, ← tab_snoc]
      · obtain ⟨sH, hL⟩ := hP
        rw [List.length_map, W.kl, tab_tb] at hL
        refine ⟨D, fl Kr n, rfl, hL, ?_, by rw [fl_len]; omega, fun x hx => FM_sm (W.flM sz two n8 ap x hx), fun r H6 s6 f6 => ?_⟩
        · skip
          exact part_ne W.cf
        · refine k r H6 (S4.trans (Sts.of (sH.trans s6))) (t4.same (sH.trans s6)) ?_
          rw [W.e, W.ef]
          exact f6
end
end K65

set_option Elab.async false
set_option linter.all false
set_option maxRecDepth 100000
set_option maxHeartbeats 4000000
set_option exponentiation.threshold 10000
/-! the law's own: whether two forms are apart -/
namespace K65
open PySem PySem.Spec PyProof.Rows L2 StX RZ MyR SlX OwnR OwnF EnumT GxR GenNx FDivQ LA
section
variable {P : Program} {w : World} {K : PySem.W.Frag} {mg : Str → Option Value} {base : Heap} {Ps : List Addr}
def spAp : Sp := fun vs H Q _ => ∃ (a b : Addr) (f g : List Int) (p q n : Nat), vs = [.ref a, .ref b] ∧ H a = some (tp f) ∧ H b = some (tp g) ∧ Two f g p q n ∧ n ≤ 8 ∧ Sz f g ∧ ∀ H', Same H H' → Q (.bl (apB f g)) H'
theorem ok_law_is_apart (T : Facts K mg) : FnOk P w K mg base CX0 6 T.f_law_is_apart T.fd_law_is_apart ["_law_one", "_law_other"] spAp := by
  have G_law_shared := ok_law_shared (P := P) (w := w) (base := base) T
  have G_law_shifted_forms := ok_law_shifted_forms (P := P) (w := w) (base := base) T
  have G_law_rank := ok_law_rank (P := P) (w := w) (base := base) T
  refine T.F_law_is_apart.ok sc_law_is_apart (fun vs H Q E h => ?_) (fun cdv A outer s H vs Q E hr h => ?_)
  · obtain ⟨a, b, f, g, p, q, n, rfl, _⟩ := h
    rfl
  · obtain ⟨a, b, f, g, p, q, n, rfl, ha, hb, two, n8, sz, k⟩ := h
    have h1 := two.hf; have h2 := two.hg; have h3 := two.hn; have h4 := two.ha; have h5 := two.hb
    refine ⟨_, (PSs.nox (pss_cons (ps_if (pw_or (pt_cmpR op_eq (pe_call G_law_shared (hr.mono (by decide)) (by rfl) T.g_law_shared T.F_law_shared.kp T.b_law_shared .nil pass0 (pa_cons (pv 0) pa_nil)) pe_int (nomark _)) (pw_or1 (pt_cmpR op_eq (pe_call G_law_shared (hr.mono (by decide)) (by rfl) T.g_law_shared T.F_law_shared.kp T.b_law_shared .nil pass0 (pa_cons (pv 1) pa_nil)) pe_int (nomark _)))).pt
      (pss_one (ps_ret pe_bl))
      pss_nil)
    (pss_cons (ps_set (i := 2) sc_law_is_apart.nd rfl (.inl rfl) (pe_op op_sub (pe_op op_add (pe_callB call_len_seq (by rfl) T.z_len (by decide +kernel) (pa_cons (pv 0) pa_nil)) (pe_callB call_len_seq (by rfl) T.z_len (by decide +kernel) (pa_cons (pv 1) pa_nil))) pe_int))
    (pss_cons (ps_if (pw_or (pt_cmpR op_eq (pe_callB call_len_seq (by rfl) T.z_len (by decide +kernel) (pa_cons (pv 0) pa_nil)) pe_int (nomark _)) (pw_or1 (pt_cmpR op_eq (pe_callB call_len_seq (by rfl) T.z_len (by decide +kernel) (pa_cons (pv 1) pa_nil)) pe_int (nomark _)))).pt
      (pss_one (ps_ret pe_bl))
      pss_nil)
    (pss_cons (ps_set (i := 3) sc_law_is_apart.nd rfl (.inl rfl) (pe_op op_cat (pe_call G_law_shifted_forms (hr.mono (by decide)) (by rfl) T.g_law_shifted_forms T.F_law_shifted_forms.kp T.b_law_shifted_forms .nil pass0 (pa_cons (pv 0) (pa_cons (pe_op op_sub (pv 2) pe_int) pa_nil))) (pe_call G_law_shifted_forms (hr.mono (by decide)) (by rfl) T.g_law_shifted_forms T.F_law_shifted_forms.kp T.b_law_shifted_forms .nil pass0 (pa_cons (pv 1) (pa_cons (pe_op op_sub (pv 2) pe_int) pa_nil)))))
    (pss_one (ps_ret (pe_cmpR op_eq (pe_call G_law_rank hr (by rfl) T.g_law_rank T.F_law_rank.kp T.b_law_rank .nil pass0 (pa_cons (pv 3) (pa_cons (pv 2) pa_nil))) (pv 2) (nomark _))))))))), ?_⟩
    refine ⟨_, rfl, a, f, rfl, ha, ?_⟩
    refine ⟨rfl, _, rfl, ?_⟩
    have fin : cont f = 0 ∨ cont g = 0 → Q (.bl false) H := fun z => by
      have q1 := k H (Same.rf H)
      rw [ap_zero two z] at q1
      exact q1
    by_cases z1 : cont f = 0
    · rw [decide_eq_true (show V.int ((cont f : Nat) : Int) = V.int 0 by rw [z1]; rfl)]
      exact iteT (fin (.inl z1))
    rw [decide_eq_false (show ¬ V.int ((cont f : Nat) : Int) = V.int 0 from fun e => z1 (by have := V.int.inj e; omega))]
    refine iteF ⟨_, rfl, b, g, rfl, hb, rfl, _, rfl, ?_⟩
    by_cases z2 : cont g = 0
    · rw [decide_eq_true (show V.int ((cont g : Nat) : Int) = V.int 0 by rw [z2]; rfl)]
      exact iteT (fin (.inr z2))
    rw [decide_eq_false (show ¬ V.int ((cont g : Nat) : Int) = V.int 0 from fun e => z2 (by have := V.int.inj e; omega))]
    refine iteF ?_
    refine ⟨_, rfl, a, _, rfl, .inr (SqT.of ha), _, rfl, b, _, rfl, .inr (SqT.of hb), _, _, rfl, rfl, _, _, rfl, rfl, ?_⟩
    dsimp only
    rw [List.length_map, List.length_map, show (((f.length : Nat) : Int) + ((g.length : Nat) : Int) - 2) = ((n + 2 : Nat) : Int) by omega]
    refine ⟨_, rfl, a, _, rfl, .inr (SqT.of ha), rfl, _, rfl, ?_⟩
    rw [List.length_map, decide_eq_false (show ¬ V.int ((f.length : Nat) : Int) = V.int 1 from fun e => by have := V.int.inj e; omega)]
    refine iteF ⟨_, rfl, b, _, rfl, .inr (SqT.of hb), rfl, _, rfl, ?_⟩
    rw [List.length_map, decide_eq_false (show ¬ V.int ((g.length : Nat) : Int) = V.int 1 from fun e => by have := V.int.inj e; omega)]
    refine iteF ?_
    have e1 : (((n + 2 : Nat) : Int) - 1) = ((n + 1 : Nat) : Int) := by omega
    refine ⟨_, rfl, _, rfl, _, _, rfl, rfl, a, f, n + 1, ?_, ha, by omega, by omega, by omega, fun pa as H1 s1 a1 r1 => ⟨_, rfl, _, rfl, _, _, rfl, rfl, b, g, n + 1, ?_, s1 _ _ hb, by omega, by omega, by omega, fun pb bs H2 s2 b2 r2 => ?_⟩⟩
    · show [V.ref a, V.int (((n + 2 : Nat) : Int) - 1)] ++ [] = _
      rw [e1]
      rfl
    · show [V.ref b, V.int (((n + 2 : Nat) : Int) - 1)] ++ [] = _
      rw [e1]
      rfl
    have la : as.length = n + 1 + 2 - f.length := by rw [RX.len r1]; exact shf_len _ _
    have lb : bs.length = n + 1 + 2 - g.length := by rw [RX.len r2]; exact shf_len _ _
    refine ⟨pa, pb, _, _, rfl, rfl, s2 _ _ a1, b2, ?_, fun pc nc => gen_upd H2 pc (.lst (as.map V.ref ++ bs.map V.ref)) nc fun H3 s3 c3 => ?_⟩
    · rw [List.length_map, List.length_map]
      exact Nat.le_of_lt (small1000 (n := as.length + bs.length) (by omega))
    rw [← List.map_append] at c3
    have r3 : RT H3 (as ++ bs) (urows f g (n + 1)) := rt_app (r1.same (s2.trans s3)) (r2.same s3)
    have s03 := s1.trans (s2.trans s3)
    refine ⟨_, rfl, _, rfl, pc, as ++ bs, urows f g (n + 1), n + 2, rfl, .inr c3, RX.imp (fun a r e => .inl e) r3, by rw [len1 two]; omega, by omega, urows_w, (sz.e two n8).2, fun H4 s4 => ⟨_, rfl, rfl, ?_⟩⟩
    have e : decide (V.int (((ech lless (urows f g (n + 1)) (n + 2)).length : Nat) : Int) = V.int ((n + 2 : Nat) : Int)) = apB f g := by
      rw [ap_of two, ech_eq urows_w]
      by_cases c : (ech lless (urows f g (n + 1)) (n + 2)).length = n + 2
      · rw [decide_eq_true c, decide_eq_true (by rw [c])]
      · rw [decide_eq_false c, decide_eq_false fun z => c (by have := V.int.inj z; omega)]
    show Q (V.bl (decide (V.int (((ech lless (urows f g (n + 1)) (n + 2)).length : Nat) : Int) = V.int ((n + 2 : Nat) : Int)))) H4
    rw [e]
    exact k H4 (s03.trans s4)
end
end K65

set_option Elab.async false
set_option linter.all false
set_option maxRecDepth 100000
set_option maxHeartbeats 4000000
set_option exponentiation.threshold 10000
/-! the two killers, told -/
namespace K65
open PySem PySem.Spec PyProof.Rows L2 StX RZ MyR SlX OwnR OwnF EnumT GxR GenNx FDivQ LA
section
variable {P : Program} {w : World} {K : PySem.W.Frag} {mg : Str → Option Value} {base : Heap} {Ps : List Addr}
def spSecond (Ps : List Addr) : Sp := fun vs H Q _ => ∃ (a b : Addr) (F f1 : List Int) (n r q : Nat), vs = [.ref a, .ref b] ∧ H a = some (tp F) ∧ H b = some (tp f1) ∧ Lv F n ∧ Low F n r q ∧ f1.length = r + 1 ∧ f1 ∈ kern (lrows F r) (r + 1) ∧ Tg Ps H ∧ ∀ c H', Sts Ps H H' → Tg Ps H' → H' c = some (tp (sk F f1 q)) → Q (.ref c) H'
theorem ok_second_killer (T : Facts K mg) (TB_first_of : TabB base mg T.c_first_of T.P_first_of) (hP : T.P_first_of ∈ Ps) (TB_first_index : TabB base mg T.c_first_index T.P_first_index) (hI : T.P_first_index ∈ Ps) (TB_second_killer : TabB base mg T.c_second_killer T.P_second_killer) (hS : T.P_second_killer ∈ Ps) :
    FnOk P w K mg base CX0 6 T.f_second_killer T.fd_second_killer ["entries", "first"] (spSecond Ps) := by
  have G_killers_in := ok_killers_in (P := P) (w := w) (base := base) T TB_first_of hP
  have G_quotient_in := ok_quotient_in (P := P) (w := w) (base := base) T TB_first_index hI
  refine HookT.okC T.F_second_killer sc_second_killer (fun vs H Q E h => ?_) (fun A outer s H vs Q E hr h => ?_)
  · obtain ⟨a, b, F, f1, n, r, q, rfl, _⟩ := h
    rfl
  · obtain ⟨a, b, F, f1, n, r, q, rfl, ha, hb, L, lw, l1, m1, t, k⟩ := h
    refine ⟨_, (PSs.nox (pss_cons (ps_set (i := 2) sc_second_killer.nd rfl (.inl rfl) (pe_call G_killers_in hr (by rfl) T.g_killers_in T.F_killers_in.kp T.b_killers_in .nil pass0 (pa_cons (pv 0) (pa_cons (pe_op op_sub (pe_op op_add (pe_callB call_len_seq (by rfl) T.z_len (by decide +kernel) (pa_cons (pv 0) pa_nil)) pe_int) (pe_callB call_len_seq (by rfl) T.z_len (by decide +kernel) (pa_cons (pv 1) pa_nil))) pa_nil))))
    (pss_one (ps_ret (GenCx.pe_nextG (k := 4) (own := [("row", 3)]) (g := (gName 3)) (hr.mono (by decide)) (by rfl) T.z_next TB_second_killer T.code_second_killer (by rfl) sc_second_killer.nd (pi_list (pv 2)) (blkOk_by (N := N_second_killer) (sc := defScope s_second_killer) (by decide +kernel)) ⟨rfl, rfl, by decide +kernel⟩ GenCx.dflt_none (fun _ _ _ _ _ _ _ hr => (pg_name (i := 3) sc_second_killer.nd rfl (.inl rfl))) (fun _ _ _ _ _ _ _ hr => (pts_one (pt_cmpR op_isN (pe_call G_quotient_in (hr.mono (by decide)) (by rfl) T.g_quotient_in T.F_quotient_in.kp T.b_quotient_in .nil pass0 (pa_cons (pv 3) (pa_cons (pv 1) pa_nil))) pe_non (nomark _)))) (fun _ _ _ _ _ _ _ hr => (pv 3))))))), ?_⟩
    have h1 := lw.hn; have h2 := lw.rq; have h3 := lw.hr; have n8 := L.n8; have lF := L.lF
    refine ⟨_, rfl, _, rfl, a, _, rfl, .inr (SqT.of ha), _, _, rfl, rfl, _, rfl, b, _, rfl, .inr (SqT.of hb), _, _, rfl, rfl, a, F, q, ?_, ha, L.lw, by omega, L.kb (by omega), t, fun p bs H1 s1 t1 e1 r1 => ?_⟩
    · show [V.ref a, V.int ((((F.map V.int).length : Nat) : Int) + 2 - (((f1.map V.int).length : Nat) : Int))] ++ [] = _
      rw [List.length_map, List.length_map, show ((F.length : Nat) : Int) + 2 - ((f1.length : Nat) : Int) = ((q : Nat) : Int) by omega]
      rfl
    have hb1 := s1.tup t hb
    refine ⟨_, rfl, p, rfl, ⟨_, SqL.of e1⟩, t1 _ hS, fun H2 hT => GenCx.nx_list (xs := bs.map V.ref) (fun i H' => Sts Ps H1 H' ∧ Tg Ps H' ∧ ∀ j, j < i → ∀ u, (kern (lrows F q) (q + 1))[j]? = some u → qd u f1 ≠ none) ⟨tbd_sts hT hS, tbd_tg hT t1, fun j hj => absurd hj (Nat.not_lt_zero j)⟩ (fun i H' _ hP => SqL.of (hP.1.lst t1 e1)) (fun i x H' hx hP => ?_) (fun H' hP => ?_)⟩
    · obtain ⟨sH, tH, lo⟩ := hP
      obtain ⟨u, hu, rfl⟩ : ∃ u, bs[i]? = some u ∧ x = V.ref u := by
        rw [List.getElem?_map] at hx
        cases e : bs[i]? with
        | none => rw [e] at hx; cases hx
        | some u => rw [e] at hx; cases hx; exact ⟨u, rfl, rfl⟩
      have hi : i < bs.length := (List.getElem?_eq_some_iff.mp hu).1
      obtain ⟨u', g, hu', hg, eg⟩ := RX.get r1 (i := i) (by rw [← r1.len]; exact hi)
      rw [hu] at hu'
      cases hu'
      have mg : g ∈ kern (lrows F q) (q + 1) := List.mem_of_getElem? hg
      refine ⟨rfl, _, rfl, _, rfl, u, b, g, f1, rfl, sH.tup t1 eg, sH.tup t1 hb1, L.qd lw m1 mg, tH, fun v H4 s4 t4 ov => ⟨rfl, _, rfl, ?_⟩⟩
      cases e : qd g f1 with
      | none =>
        rw [e] at ov
        have ov : v = .non := ov
        subst ov
        refine iteT ⟨_, rfl, ?_⟩
        rw [sk_at hg e lo] at eg
        exact k u H4 (s1.trans (sH.trans s4)) t4 ((sH.trans s4).tup t1 eg)
      | some l =>
        rw [e] at ov
        obtain ⟨z, rfl, _⟩ := ov
        refine iteF ⟨sH.trans s4, t4, fun j hj y hy => ?_⟩
        by_cases c : j = i
        · subst c
          rw [hg] at hy
          cases hy
          rw [e]
          exact fun z => by cases z
        · exact lo j (by omega) y hy
    · obtain ⟨sH, tH, lo⟩ := hP
      refine (sk_no lw l1 m1 fun j u hu => lo j ?_ u hu).elim
      have : j < (kern (lrows F q) (q + 1)).length := (List.getElem?_eq_some_iff.mp hu).1
      rw [List.length_map, r1.len]
      exact this
theorem Low.max {F : List Int} {n r q : Nat} (h : Low F n r q) : ∀ m ∈ rks F F.length, (∀ y ∈ rks F F.length, y ≤ m) → m = (r : Nat) := fun m hm hx => by
  have h1 := h.hn; have h2 := h.rq; have h3 := h.hr; have lF := h.lF
  unfold rks at hm hx
  have m1 := hx _ (List.mem_map.mpr ⟨r - 1, List.mem_range.mpr (by omega), rfl⟩)
  obtain ⟨d, hd, rfl⟩ := List.mem_map.mp hm
  have hd := List.mem_range.mp hd
  rw [h.up d (by omega)] at m1 ⊢
  rw [h.up (r - 1) (by omega)] at m1
  omega
def spLeastD (Ps : List Addr) : Sp := fun vs H Q _ => ∃ (a : Addr) (F : List Int) (n r q : Nat), vs = [.ref a] ∧ H a = some (tp F) ∧ Lv F n ∧ Low F n r q ∧ Tg Ps H ∧ ∀ H', Sts Ps H H' → Tg Ps H' → Q (.int (r : Nat)) H'
theorem ok_least_degree_in (T : Facts K mg) (TB_first_of : TabB base mg T.c_first_of T.P_first_of) (hP : T.P_first_of ∈ Ps) :
    FnOk P w K mg base CX0 6 T.f_least_degree_in T.fd_least_degree_in ["entries"] (spLeastD Ps) := by
  have G_ranks_in := ok_ranks_in (P := P) (w := w) (base := base) T TB_first_of hP
  refine T.F_least_degree_in.ok sc_least_degree_in (fun vs H Q E h => ?_) (fun cdv A outer s H vs Q E hr h => ?_)
  · obtain ⟨a, F, n, r, q, rfl, _⟩ := h
    rfl
  · obtain ⟨a, F, n, r, q, rfl, ha, L, lw, t, k⟩ := h
    have lF := L.lF
    refine ⟨_, (PSs.nox (pss_one (ps_ret (pe_callB (cr_max (by rfl)) (by rfl) T.z_max (by decide +kernel) (pa_cons (pe_call G_ranks_in hr (by rfl) T.g_ranks_in T.F_ranks_in.kp T.b_ranks_in .nil pass0 (pa_cons (pv 0) pa_nil)) pa_nil))))), ?_⟩
    refine ⟨_, rfl, a, F, rfl, ha, L.lw, fun d hd => (L.kb (by omega)).e, t, fun p H1 s1 t1 e1 => ⟨p, rks F F.length, rfl, SqL.of e1, by rw [rks_len]; omega, fun m hm hx => ?_⟩⟩
    rw [lw.max m hm hx]
    exact k H1 s1 t1
def spTwoIn (Ps : List Addr) : Sp := fun vs H Q _ => ∃ (a : Addr) (F : List Int) (n r q : Nat), vs = [.ref a] ∧ H a = some (tp F) ∧ Lv F n ∧ Low F n r q ∧ Tg Ps H ∧ ∀ p b c H', Sts Ps H H' → Tg Ps H' → H' p = some (.tup [.ref b, .ref c]) → H' b = some (tp (fk F r)) → H' c = some (tp (sk F (fk F r) q)) → Q (.ref p) H'
theorem ok_two_killers_in (T : Facts K mg) (TB_first_of : TabB base mg T.c_first_of T.P_first_of) (hP : T.P_first_of ∈ Ps) (TB_first_index : TabB base mg T.c_first_index T.P_first_index) (hI : T.P_first_index ∈ Ps) (TB_second_killer : TabB base mg T.c_second_killer T.P_second_killer) (hS : T.P_second_killer ∈ Ps) :
    FnOk P w K mg base CX0 7 T.f_two_killers_in T.fd_two_killers_in ["entries"] (spTwoIn Ps) := by
  have G_killers_in := ok_killers_in (P := P) (w := w) (base := base) T TB_first_of hP
  have G_least_degree_in := ok_least_degree_in (P := P) (w := w) (base := base) T TB_first_of hP
  have G_second_killer := ok_second_killer (P := P) (w := w) (base := base) T TB_first_of hP TB_first_index hI TB_second_killer hS
  refine T.F_two_killers_in.ok sc_two_killers_in (fun vs H Q E h => ?_) (fun cdv A outer s H vs Q E hr h => ?_)
  · obtain ⟨a, F, n, r, q, rfl, _⟩ := h
    rfl
  · obtain ⟨a, F, n, r, q, rfl, ha, L, lw, t, k⟩ := h
    have lF := L.lF
    have h1 := lw.hn; have h2 := lw.rq; have h3 := lw.hr; have n8 := L.n8
    have z2 : 2 ≤ sizeLine := by decide
    refine ⟨_, (PSs.nox (pss_cons (ps_set (i := 1) sc_two_killers_in.nd rfl (.inl rfl) (pe_ix ix_list (pe_call G_killers_in (hr.mono (by decide)) (by rfl) T.g_killers_in T.F_killers_in.kp T.b_killers_in .nil pass0 (pa_cons (pv 0) (pa_cons (pe_call G_least_degree_in hr (by rfl) T.g_least_degree_in T.F_least_degree_in.kp T.b_least_degree_in .nil pass0 (pa_cons (pv 0) pa_nil)) pa_nil))) pe_int (fun _ _ => rfl)))
    (pss_one (ps_ret (pe_tup (pa_cons (pv 1) (pa_cons (pe_call G_second_killer hr (by rfl) T.g_second_killer T.F_second_killer.kp T.b_second_killer .nil pass0 (pa_cons (pv 0) (pa_cons (pv 1) pa_nil))) pa_nil))))))), ?_⟩
    refine ⟨_, rfl, _, rfl, a, F, n, r, q, rfl, ha, L, lw, t, fun H1 s1 t1 => ⟨a, F, r, rfl, s1.tup t ha, L.lw, by omega, L.kb (by omega), t1, fun p bs H2 s2 t2 e2 r2 => ?_⟩⟩
    have s02 := s1.trans s2
    have ha2 := s02.tup t ha
    have m1 := fk_mem lw
    have kp : 0 < (kern (lrows F r) (r + 1)).length := List.length_pos_of_mem m1
    obtain ⟨b, f1, hb, hf, eb⟩ := RX.get r2 (i := 0) kp
    have ef : f1 = fk F r := by
      unfold fk
      rw [List.getD_eq_getElem?_getD, hf]
      rfl
    subst ef
    refine ⟨p, _, 0, _, rfl, rfl, SqL.of e2, at_of rfl (by rw [List.getElem?_map, hb]; rfl), ?_⟩
    have l1 : (fk F r).length = r + 1 := (re_kern _ _).len _ m1
    refine ⟨_, rfl, _, rfl, _, rfl, a, b, F, fk F r, n, r, q, rfl, ha2, eb, L, lw, l1, m1, t2, fun c H3 s3 t3 e3 => ⟨z2, fun u hu => ?_⟩⟩
    exact k u b c _ (s02.trans (s3.trans (Sts.of (same_upd0 hu)))) (t3.same (same_upd0 hu)) upd_same (same_upd0 hu _ _ (s3.tup t2 eb)) (same_upd0 hu _ _ e3)
def spTwo (C : Addr) (Ps : List Addr) : Sp := fun vs H Q _ => ∃ (a : Addr) (F : List Int) (n r q : Nat), vs = [.ref a] ∧ Fo C H a F ∧ Lv F n ∧ Low F n r q ∧ Tg Ps H ∧ ∀ p b c H', Sts Ps H H' → Tg Ps H' → H' p = some (.tup [.ref b, .ref c]) → Fo C H' b (fk F r) → Fo C H' c (sk F (fk F r) q) → Q (.ref p) H'
theorem ok_two_killers (T : Facts K mg) (TB_first_of : TabB base mg T.c_first_of T.P_first_of) (hP : T.P_first_of ∈ Ps) (TB_first_index : TabB base mg T.c_first_index T.P_first_index) (hI : T.P_first_index ∈ Ps) (TB_second_killer : TabB base mg T.c_second_killer T.P_second_killer) (hS : T.P_second_killer ∈ Ps) :
    FnOk P w K mg base CX0 8 T.f_two_killers T.fd_two_killers ["form"] (spTwo T.C_Form Ps) := by
  have G_require_form := ok_require_form (P := P) (w := w) (base := base) T
  have G_Form_degree := ok_Form_degree (P := P) (w := w) (base := base) T
  have G_Form_entries := ok_Form_entries (P := P) (w := w) (base := base) T
  have G_Form_is_zero : FnOk P w K mg base CX0 2 T.f_Form_is_zero T.fd_Form_is_zero ["self"] (spIsZ T.C_Form) := ok_Form_is_zero T
  have G_least_degree_in := ok_least_degree_in (P := P) (w := w) (base := base) T TB_first_of hP
  have G_two_killers_in := ok_two_killers_in (P := P) (w := w) (base := base) T TB_first_of hP TB_first_index hI TB_second_killer hS
  have G_form_of : FnOk P w K mg base CX0 7 T.f_form_of T.fd_form_of ["entries"] (spMake T.C_Form) := ok_form_of T
  refine T.F_two_killers.ok sc_two_killers (fun vs H Q E h => ?_) (fun cdv A outer s H vs Q E hr h => ?_)
  · obtain ⟨a, F, n, r, q, rfl, _⟩ := h
    rfl
  · obtain ⟨a, F, n, r, q, rfl, fa, L, lw, t, k⟩ := h
    have lF := L.lF
    have h1 := lw.hn; have h2 := lw.rq; have h3 := lw.hr; have n8 := L.n8
    have z2 : 2 ≤ sizeLine := by decide
    have nz : nzr F = true := nzr_iff.mpr lw.nz
    refine ⟨_, (PSs.nox (pss_cons (ps_expr (pe_call G_require_form (hr.mono (by decide)) (by rfl) T.g_require_form T.F_require_form.kp T.b_require_form .nil pass0 (pa_cons (pv 0) pa_nil)))
    (pss_cons (ps_if (pt_val (pe_prp (pv 0) T.oc_Form T.pr_Form_is_zero G_Form_is_zero T.b_Form_is_zero (hr.mono (by decide))))
      (pss_one ps_never)
      pss_nil)
    (pss_cons (ps_if (pt_cmpR op_gt (pe_op op_sub (pe_op op_add (pe_prp (pv 0) T.oc_Form T.pr_Form_degree G_Form_degree T.b_Form_degree (hr.mono (by decide))) pe_int) (pe_call G_least_degree_in (hr.mono (by decide)) (by rfl) T.g_least_degree_in T.F_least_degree_in.kp T.b_least_degree_in .nil pass0 (pa_cons (pe_prp (pv 0) T.oc_Form T.pr_Form_entries G_Form_entries T.b_Form_entries (hr.mono (by decide))) pa_nil))) (pe_glob (v := .int 40) (by rfl) T.c_MAX_DEGREE.choose_spec ⟨_, rfl⟩) (nomark _))
      (pss_one ps_never)
      pss_nil)
    (pss_cons (ps_asg (pe_call G_two_killers_in hr (by rfl) T.g_two_killers_in T.F_two_killers_in.kp T.b_two_killers_in .nil pass0 (pa_cons (pe_prp (pv 0) T.oc_Form T.pr_Form_entries G_Form_entries T.b_Form_entries (hr.mono (by decide))) pa_nil)) (pg_tup (by rfl) (pgs_cons (pg_name (i := 1) sc_two_killers.nd rfl (.inl rfl)) (pgs_cons (pg_name (i := 2) sc_two_killers.nd rfl (.inl rfl)) pgs_nil))))
    (pss_one (ps_ret (pe_tup (pa_cons (pe_call G_form_of hr (by rfl) T.g_form_of T.F_form_of.kp T.b_form_of .nil pass0 (pa_cons (pv 1) pa_nil)) (pa_cons (pe_call G_form_of hr (by rfl) T.g_form_of T.F_form_of.kp T.b_form_of .nil pass0 (pa_cons (pv 2) pa_nil)) pa_nil)))))))))), ?_⟩
    refine ⟨_, rfl, a, F, rfl, fa, _, rfl, prop_zero fa ?_⟩
    rw [show F.any (· != 0) = true from nz]
    refine ⟨_, rfl, iteF ⟨_, rfl, prop_deg fa ⟨_, _, rfl, rfl, _, rfl, prop_ent fa fun u wu => ⟨u, F, n, r, q, rfl, wu, L, lw, t, fun H1 s1 t1 => ?_⟩⟩⟩⟩
    have fa1 := s1.fo t fa
    refine ⟨_, _, rfl, rfl, _, _, rfl, rfl, _, rfl, ?_⟩
    rw [decide_eq_false (by omega)]
    refine iteF ⟨_, rfl, prop_ent fa1 fun u1 wu1 => ⟨u1, F, n, r, q, rfl, wu1, L, lw, t1, fun p b c H2 s2 t2 e2 eb ec => ?_⟩⟩
    have pr := pair_of lw
    refine ⟨p, _, rfl, SqT.of e2, rfl, _, _, rfl, _, _, rfl, rfl, ?_⟩
    refine ⟨_, rfl, b, _, rfl, eb, fun x H3 s3 n3 f3 => ⟨_, rfl, c, _, rfl, s3 _ _ ec, fun y H4 s4 n4 f4 => ⟨z2, fun u hu => ?_⟩⟩⟩
    exact k u x y _ (s1.trans (s2.trans (Sts.of (s3.trans (s4.trans (same_upd0 hu)))))) (t2.same (s3.trans (s4.trans (same_upd0 hu)))) upd_same ((f3.same s4).same (same_upd0 hu)) (f4.same (same_upd0 hu))
end
end K65

set_option Elab.async false
set_option linter.all false
set_option maxRecDepth 100000
set_option maxHeartbeats 4000000
set_option exponentiation.threshold 10000
/-! the form that two kill, told; the law's own killers -/
namespace K65
open PySem PySem.Spec PyProof.Rows L2 StX RZ MyR SlX OwnR OwnF EnumT GxR GenNx FDivQ LA
section
variable {P : Program} {w : World} {K : PySem.W.Frag} {mg : Str → Option Value} {base : Heap} {Ps : List Addr}
def spKBy (C : Addr) (Ps : List Addr) : Sp := fun vs H Q E => ∃ (a b : Addr) (f g : List Int) (p q n : Nat), vs = [.ref a, .ref b] ∧ Fo C H a f ∧ Fo C H b g ∧ Two f g p q n ∧ n ≤ 8 ∧ Sz f g ∧ Tg Ps H ∧ apB f g = true ∧ ∀ r H', Sts Ps H H' → Tg Ps H' → Fo C H' r (wf f g) → Q (.ref r) H'
theorem ok_killed_by (T : Facts K mg) (TB_first_of : TabB base mg T.c_first_of T.P_first_of) (hP : T.P_first_of ∈ Ps) : FnOk P w K mg base CX0 8 T.f_killed_by T.fd_killed_by ["one", "other"] (spKBy T.C_Form Ps) := by
  have G_require_form := ok_require_form (P := P) (w := w) (base := base) T
  have G_Form_degree := ok_Form_degree (P := P) (w := w) (base := base) T
  have G_Form_entries := ok_Form_entries (P := P) (w := w) (base := base) T
  have G_have_common_root := ok_have_common_root (P := P) (w := w) (base := base) T TB_first_of hP
  have G_killed_by_in := ok_killed_by_in (P := P) (w := w) (base := base) T TB_first_of hP
  have G_form_of : FnOk P w K mg base CX0 7 T.f_form_of T.fd_form_of ["entries"] (spMake T.C_Form) := ok_form_of T
  refine T.F_killed_by.ok sc_killed_by (fun vs H Q E h => ?_) (fun cdv A outer s H vs Q E hr h => ?_)
  · obtain ⟨a, b, f, g, p, q, n, rfl, _⟩ := h
    rfl
  · obtain ⟨a, b, f, g, p, q, n, rfl, fa, fb, two, n8, sz, t, ap, qg⟩ := h
    have h1 := two.hf; have h2 := two.hg; have h3 := two.hn; have h4 := two.ha; have h5 := two.hb
    refine ⟨_, (PSs.nox (pss_cons (ps_expr (pe_call G_require_form (hr.mono (by decide)) (by rfl) T.g_require_form T.F_require_form.kp T.b_require_form .nil pass0 (pa_cons (pv 0) pa_nil)))
    (pss_cons (ps_expr (pe_call G_require_form (hr.mono (by decide)) (by rfl) T.g_require_form T.F_require_form.kp T.b_require_form .nil pass0 (pa_cons (pv 1) pa_nil)))
    (pss_cons (ps_if (pt_cmpR op_lt (pe_callB (call_min2 (by rfl)) (by rfl) T.z_min (by decide +kernel) (pa_cons (pe_prp (pv 0) T.oc_Form T.pr_Form_degree G_Form_degree T.b_Form_degree (hr.mono (by decide))) (pa_cons (pe_prp (pv 1) T.oc_Form T.pr_Form_degree G_Form_degree T.b_Form_degree (hr.mono (by decide))) pa_nil))) pe_int (nomark _))
      (pss_one ps_never)
      pss_nil)
    (pss_cons (ps_if (pt_cmpR op_gt (pe_op op_sub (pe_op op_add (pe_prp (pv 0) T.oc_Form T.pr_Form_degree G_Form_degree T.b_Form_degree (hr.mono (by decide))) (pe_prp (pv 1) T.oc_Form T.pr_Form_degree G_Form_degree T.b_Form_degree (hr.mono (by decide)))) pe_int) (pe_glob (v := .int 40) (by rfl) T.c_MAX_DEGREE.choose_spec ⟨_, rfl⟩) (nomark _))
      (pss_one ps_never)
      pss_nil)
    (pss_cons (ps_if (pt_val (pe_call G_have_common_root (hr.mono (by decide)) (by rfl) T.g_have_common_root T.F_have_common_root.kp T.b_have_common_root .nil pass0 (pa_cons (pe_prp (pv 0) T.oc_Form T.pr_Form_entries G_Form_entries T.b_Form_entries (hr.mono (by decide))) (pa_cons (pe_prp (pv 1) T.oc_Form T.pr_Form_entries G_Form_entries T.b_Form_entries (hr.mono (by decide))) pa_nil))))
      (pss_one ps_never)
      pss_nil)
    (pss_one (ps_ret (pe_call G_form_of hr (by rfl) T.g_form_of T.F_form_of.kp T.b_form_of .nil pass0 (pa_cons (pe_call G_killed_by_in (hr.mono (by decide)) (by rfl) T.g_killed_by_in T.F_killed_by_in.kp T.b_killed_by_in .nil pass0 (pa_cons (pe_prp (pv 0) T.oc_Form T.pr_Form_entries G_Form_entries T.b_Form_entries (hr.mono (by decide))) (pa_cons (pe_prp (pv 1) T.oc_Form T.pr_Form_entries G_Form_entries T.b_Form_entries (hr.mono (by decide))) pa_nil))) pa_nil)))))))))), ?_⟩
    refine ⟨_, rfl, a, f, rfl, fa, _, rfl, b, g, rfl, fb, ?_⟩
    refine ⟨_, rfl, prop_deg fa ⟨_, rfl, prop_deg fb ⟨_, _, rfl, ?_⟩⟩⟩
    refine ⟨_, _, rfl, rfl, _, rfl, ?_⟩
    rw [decide_eq_false (by split <;> omega)]
    refine iteF ⟨_, rfl, prop_deg fa ⟨_, rfl, prop_deg fb ⟨_, _, rfl, rfl, _, _, rfl, rfl, _, _, rfl, rfl, _, rfl, ?_⟩⟩⟩
    rw [decide_eq_false (by omega)]
    refine iteF ⟨_, rfl, prop_ent fa fun u wu => ⟨_, rfl, prop_ent fb fun v wv => ⟨u, v, f, g, p, q, n, rfl, wu, wv, two, n8, sz, t, fun H1 s1 t1 => ⟨!apB f g, rfl, ?_⟩⟩⟩⟩
    rw [ap]
    refine iteF ⟨_, rfl, prop_ent (s1.fo t fa) fun u1 wu1 => ⟨_, rfl, prop_ent (s1.fo t fb) fun v1 wv1 => ⟨u1, v1, f, g, p, q, n, rfl, wu1, wv1, two, n8, sz, ap, t1, fun r H2 s2 t2 f2 => ⟨r, _, rfl, f2, fun e H3 s3 n3 f3 => qg e H3 (s1.trans (s2.trans (Sts.of s3))) (t2.same s3) f3⟩⟩⟩⟩
def spDue : Sp := fun vs H Q _ => ∃ (a : Addr) (F : List Int) (n r q : Nat), vs = [.ref a] ∧ H a = some (tp F) ∧ Lv F n ∧ Low F n r q ∧ ∀ p b c H', Same H H' → H' p = some (.tup [.ref b, .ref c]) → H' b = some (tp (fk F r)) → H' c = some (tp (sk F (fk F r) q)) → Q (.ref p) H'
theorem ok_law_due (T : Facts K mg) : FnOk P w K mg base CX0 8 T.f_law_due T.fd_law_due ["_law_form_here"] spDue := by
  have G_law_least_kill := ok_law_least_kill (P := P) (w := w) (base := base) T
  have G_law_killer_rows := ok_law_killer_rows (P := P) (w := w) (base := base) T
  have G_law_shifted_forms := ok_law_shifted_forms (P := P) (w := w) (base := base) T
  have G_law_rank := ok_law_rank (P := P) (w := w) (base := base) T
  refine T.F_law_due.ok sc_law_due (fun vs H Q E h => ?_) (fun cdv A outer s H vs Q E hr h => ?_)
  · obtain ⟨a, F, n, r, q, rfl, _⟩ := h
    rfl
  · obtain ⟨a, F, n, r, q, rfl, ha, L, lw, k⟩ := h
    have lF := L.lF
    have h1 := lw.hn; have h2 := lw.rq; have h3 := lw.hr; have n8 := L.n8
    have z1 : 1 ≤ sizeLine := by decide
    have z2 : 2 ≤ sizeLine := by decide
    have kr := lw.kd (d := r) (by omega)
    have m1 := fk_mem lw
    have kp : 0 < (kern (lrows F r) (r + 1)).length := List.length_pos_of_mem m1
    have l1 : (fk F r).length = r + 1 := (re_kern _ _).len _ m1
    refine ⟨_, (PSs.nox (pss_cons (ps_par (i := 1) (j := 2) (by rfl) sc_law_due.nd rfl rfl (by decide) rfl rfl (pa_cons (pe_call G_law_least_kill hr (by rfl) T.g_law_least_kill T.F_law_least_kill.kp T.b_law_least_kill .nil pass0 (pa_cons (pv 0) pa_nil)) (pa_cons (pe_op op_sub (pe_callB call_len_seq (by rfl) T.z_len (by decide +kernel) (pa_cons (pv 0) pa_nil)) pe_int) pa_nil)) (by rfl))
    (pss_cons (ps_set (i := 3) sc_law_due.nd rfl (.inl rfl) (pe_ix ix_list (pe_call G_law_killer_rows (hr.mono (by decide)) (by rfl) T.g_law_killer_rows T.F_law_killer_rows.kp T.b_law_killer_rows .nil pass0 (pa_cons (pv 0) (pa_cons (pv 1) pa_nil))) pe_int (fun _ _ => rfl)))
    (pss_cons (ps_set (i := 4) sc_law_due.nd rfl (.inl rfl) (pe_call G_law_shifted_forms (hr.mono (by decide)) (by rfl) T.g_law_shifted_forms T.F_law_shifted_forms.kp T.b_law_shifted_forms .nil pass0 (pa_cons (pv 3) (pa_cons (pe_op op_sub (pe_op op_add (pv 2) pe_int) (pv 1)) pa_nil))))
    (pss_cons (ps_for PassesOwn.never (by rfl) (pi_list (pe_call G_law_killer_rows (hr.mono (by decide)) (by rfl) T.g_law_killer_rows T.F_law_killer_rows.kp T.b_law_killer_rows .nil pass0 (pa_cons (pv 0) (pa_cons (pe_op op_sub (pe_op op_add (pv 2) pe_int) (pv 1)) pa_nil)))) (pg_name (i := 5) sc_law_due.nd rfl (.inl rfl))
      (pss_one (ps_if (pt_cmpR op_gt (pe_call G_law_rank (hr.mono (by decide)) (by rfl) T.g_law_rank T.F_law_rank.kp T.b_law_rank .nil pass0 (pa_cons (pe_op op_cat (pv 4) (pe_lst (pa_cons (pv 5) pa_nil))) (pa_cons (pe_callB call_len_seq (by rfl) T.z_len (by decide +kernel) (pa_cons (pv 5) pa_nil)) pa_nil))) (pe_callB call_len_seq (by rfl) T.z_len (by decide +kernel) (pa_cons (pv 4) pa_nil)) (nomark _))
        (pss_one (ps_ret (pe_tup (pa_cons (pv 3) (pa_cons (pv 5) pa_nil)))))
        pss_nil)))
    (pss_one (ps_ret (pe_tup (pa_cons (pv 3) (pa_cons (pv 3) pa_nil)))))))))), ?_⟩
    refine ⟨_, rfl, a, F, r, rfl, ha, L.lw, by omega, fun d hd => L.kb (by omega), lw.lo, kp, fun H1 s1 => ⟨_, rfl, a, _, rfl, .inr (SqT.of (s1 _ _ ha)), _, _, rfl, rfl, ?_⟩⟩
    dsimp only
    rw [List.length_map, show ((F.length : Nat) : Int) - 1 = ((n : Nat) : Int) by omega]
    refine ⟨_, _, rfl, _, rfl, _, rfl, a, F, r, rfl, s1 _ _ ha, L.lw, by omega, L.kb (by omega), fun p bs H2 s2 e2 r2 => ?_⟩
    obtain ⟨b, f1, hb, hf, eb⟩ := RX.get r2 (i := 0) kp
    have ef : f1 = fk F r := by
      unfold fk
      rw [List.getD_eq_getElem?_getD, hf]
      rfl
    subst ef
    refine ⟨p, _, 0, _, rfl, rfl, SqL.of e2, at_of rfl (by rw [List.getElem?_map, hb]; rfl), ?_⟩
    have s02 := s1.trans s2
    have eq1 : (n : Int) + 2 - (r : Int) = ((q : Nat) : Int) := by omega
    refine ⟨_, rfl, _, rfl, _, _, rfl, rfl, _, rfl, _, _, rfl, rfl, b, fk F r, q, ?_, eb, by omega, by omega, by omega, fun pm ms H3 s3 e3 r3 => ?_⟩
    · show [V.ref b, V.int ((n : Int) + 2 - (r : Int))] ++ [] = _
      rw [eq1]
      rfl
    refine ⟨_, rfl, _, rfl, _, _, rfl, rfl, _, rfl, _, _, rfl, rfl, a, F, q, ?_, s3 _ _ (s02 _ _ ha), L.lw, by omega, L.kb (by omega), fun pk ks H4 s4 e4 r4 => ?_⟩
    · show [V.ref a, V.int ((n : Int) + 2 - (r : Int))] ++ [] = _
      rw [eq1]
      rfl
    have s24 := s02.trans (s3.trans s4)
    have ha4 := s24 _ _ ha
    have eb4 := (s3.trans s4) _ _ eb
    have ls : ms.length = (shf (fk F r) q).length := RX.len r3
    have ls2 := shf_len (fk F r) q
    refine ⟨pk, rfl, ⟨_, SqL.of e4⟩, for_list (xs := ks.map V.ref) (fun i σ H' => ∃ y, σ = [some (.ref a), some (.int (r : Nat)), some (.int (n : Nat)), some (.ref b), some (.ref pm), y] ∧ Same H4 H' ∧ ∀ j, j < i → ∀ u, (kern (lrows F q) (q + 1))[j]? = some u → qd u (fk F r) ≠ none) ⟨none, rfl, Same.rf H4, fun j hj => absurd hj (Nat.not_lt_zero j)⟩ (fun i σ H' _ hP => ?_) (fun i x σ H' hx hP => ?_) (fun σ H' hP => ?_)⟩
    · obtain ⟨y, rfl, sH, _⟩ := hP
      exact SqL.of (sH _ _ e4)
    · obtain ⟨y, rfl, sH, lo⟩ := hP
      obtain ⟨u, hu, rfl⟩ : ∃ u, ks[i]? = some u ∧ x = V.ref u := by
        rw [List.getElem?_map] at hx
        cases e : ks[i]? with
        | none => rw [e] at hx; cases hx
        | some u => rw [e] at hx; cases hx; exact ⟨u, rfl, rfl⟩
      have hi : i < ks.length := (List.getElem?_eq_some_iff.mp hu).1
      obtain ⟨u', g, hu', hg, eg⟩ := RX.get r4 (i := i) (by rw [← RX.len r4]; exact hi)
      rw [hu] at hu'
      cases hu'
      have mg : g ∈ kern (lrows F q) (q + 1) := List.mem_of_getElem? hg
      have lg : g.length = q + 1 := (re_kern _ _).len _ mg
      have egH := sH _ _ eg
      have emH := (s4.trans sH) _ _ e3
      refine ⟨_, rfl, _, rfl, z1, fun pl nl => gen_upd H' pl (.lst [.ref u]) nl fun H5 s5 e5 => ⟨pm, pl, _, _, rfl, rfl, s5 _ _ emH, e5, ?_, fun pc nc => gen_upd H5 pc (.lst (ms.map V.ref ++ [V.ref u])) nc fun H6 s6 c6 => ?_⟩⟩
      · rw [List.length_map]
        exact Nat.le_of_lt (small1000 (n := ms.length + 1) (by omega))
      have c6 : H6 pc = some (.lst ((ms ++ [u]).map V.ref)) := by
        rw [List.map_append]
        exact c6
      have s46 := s4.trans (sH.trans (s5.trans s6))
      have r6 : RT H6 (ms ++ [u]) (shf (fk F r) q ++ [g]) := rt_app (r3.same s46) ⟨(s5.trans s6) _ _ egH, True.intro⟩
      have hw : ∀ t ∈ shf (fk F r) q ++ [g], t.length = q + 1 := fun t ht => (List.mem_append.mp ht).elim (shf_w t) fun e => by rw [List.mem_singleton.mp e]; exact lg
      have hM : ∀ t ∈ shf (fk F r) q ++ [g], ∀ x ∈ t, x.natAbs ≤ MU := fun t ht => (List.mem_append.mp ht).elim (shf_mem (mem_of_co (L.kM (lw.rk1 n8) _ m1)) t) fun e => by rw [List.mem_singleton.mp e]; exact mem_of_co (L.kM (lw.rk2 n8) _ mg)
      have ll : (shf (fk F r) q ++ [g]).length ≤ 10 := by rw [List.length_append, ls2]; show _ + 1 ≤ 10; omega
      refine ⟨_, rfl, u, _, rfl, .inr (SqT.of ((s5.trans s6) _ _ egH)), pc, ms ++ [u], shf (fk F r) q ++ [g], q + 1, ?_, .inr c6, RX.imp (fun a r e => .inl e) r6, by omega, by omega, hw, (eok_urows hw hM ll).2, fun H7 s7 => ?_⟩
      · show [V.ref pc, V.int (((g.map V.int).length : Nat) : Int)] ++ [] = _
        rw [List.length_map, lg]
        rfl
      refine ⟨_, rfl, pm, _, rfl, .inl (SqL.of ((s46.trans s7) _ _ e3)), _, _, rfl, rfl, _, rfl, ?_⟩
      rw [List.length_map, ls, ← ech_eq hw]
      have more := more_rank lw l1 m1 lg
      by_cases c : qd g (fk F r) = none
      · rw [decide_eq_true (by have := more.mpr c; omega)]
        refine iteT ⟨_, rfl, _, rfl, z2, fun d nd => ?_⟩
        have egD := ((s5.trans s6).trans s7) _ _ egH
        have e9 := sk_at hg c lo
        rw [e9] at egD
        exact k d b u _ (s24.trans (sH.trans ((s5.trans s6).trans (s7.trans (same_upd0 nd))))) upd_same (same_upd0 nd _ _ ((sH.trans ((s5.trans s6).trans s7)) _ _ eb4)) (same_upd0 nd _ _ egD)
      · rw [decide_eq_false (fun z => c (more.mp (by omega)))]
        refine iteF ⟨_, rfl, sH.trans ((s5.trans s6).trans s7), fun j hj y hy => ?_⟩
        by_cases e : j = i
        · subst e
          rw [hg] at hy
          cases hy
          exact c
        · exact lo j (by omega) y hy
    · obtain ⟨y, rfl, sH, lo⟩ := hP
      refine (sk_no lw l1 m1 fun j u hu => lo j ?_ u hu).elim
      have : j < (kern (lrows F q) (q + 1)).length := (List.getElem?_eq_some_iff.mp hu).1
      rw [List.length_map, RX.len r4]
      exact this
end
end K65

set_option Elab.async false
set_option linter.all false
set_option maxRecDepth 100000
set_option maxHeartbeats 4000000
set_option exponentiation.threshold 10000
/-! the law's check of the two killers -/
namespace K65
open PySem PySem.Spec PyProof.Rows L2 StX RZ MyR SlX OwnR OwnF EnumT GxR GenNx FDivQ LA
section
variable {P : Program} {w : World} {K : PySem.W.Frag} {mg : Str → Option Value} {base : Heap} {Ps : List Addr}
theorem ok_law_right (T : Facts K mg) (TB_first_of : TabB base mg T.c_first_of T.P_first_of) (hP : T.P_first_of ∈ Ps) (TB_first_index : TabB base mg T.c_first_index T.P_first_index) (hI : T.P_first_index ∈ Ps) (TB_second_killer : TabB base mg T.c_second_killer T.P_second_killer) (hS : T.P_second_killer ∈ Ps) :
    FnOk P w K mg base CX0 10 T.f_law_right T.fd_law_right ["_law_dice_here"] (spLRight Ps) := by
  have G_law_roll : FnOk P w K mg base CX0 1 T.f_law_roll T.fd_law_roll ["_law_dice_here", "_law_total"] spRoll2 := (ok_law_roll T).imp roll2
  have G_law_live_form := ok_law_live_form (P := P) (w := w) (base := base) T
  have G_law_due := ok_law_due (P := P) (w := w) (base := base) T
  have G_two_killers := ok_two_killers (P := P) (w := w) (base := base) T TB_first_of hP TB_first_index hI TB_second_killer hS
  have G_law_is_apart := ok_law_is_apart (P := P) (w := w) (base := base) T
  have G_does_kill := ok_does_kill (P := P) (w := w) (base := base) T
  have G_law_shifted_forms := ok_law_shifted_forms (P := P) (w := w) (base := base) T
  have G_law_rank := ok_law_rank (P := P) (w := w) (base := base) T
  have G_law_killer_rows := ok_law_killer_rows (P := P) (w := w) (base := base) T
  have G_killed_by := ok_killed_by (P := P) (w := w) (base := base) T TB_first_of hP
  have G_law_plain := ok_law_plain (P := P) (w := w) (base := base) T
  have G_Form_init : FnOk P w K mg base CX0 5 T.f_Form_init T.fd_Form_init ["self", "entries"] (spForm T.C_Told T.C_Form) := ok_Form_init T
  have G_Form_iter := ok_Form_iter (P := P) (w := w) (base := base) T
  have G_Form_len := ok_Form_len (P := P) (w := w) (base := base) T
  have G_Form_entries := ok_Form_entries (P := P) (w := w) (base := base) T
  have G_Form_eq := ok_Form_eq (P := P) (w := w) (base := base) T
  have G_Form_primitive := ok_Form_primitive (P := P) (w := w) (base := base) T
  refine T.F_law_right.ok sc_law_right (fun vs H Q E h => ?_) (fun cdv A outer s H vs Q E hr h => ?_)
  · obtain ⟨d, rfl, _⟩ := h
    rfl
  · obtain ⟨d, rfl, D0, k⟩ := h
    have z1 : 1 ≤ sizeLine := by decide
    have z2 : 2 ≤ sizeLine := by decide
    refine ⟨_, (PSs.nox (pss_cons (ps_set (i := 1) sc_law_right.nd rfl (.inl rfl) (pe_call G_law_live_form (hr.mono (by decide)) (by rfl) T.g_law_live_form T.F_law_live_form.kp T.b_law_live_form .nil pass0 (pa_cons (pv 0) (pa_cons (pe_op op_add pe_int (pe_call G_law_roll (hr.mono (by decide)) (by rfl) T.g_law_roll T.F_law_roll.kp T.b_law_roll .nil pass0 (pa_cons (pv 0) (pa_cons pe_int pa_nil)))) pa_nil))))
    (pss_cons (ps_par (i := 2) (j := 3) (by rfl) sc_law_right.nd rfl rfl (by decide) rfl rfl (pa_cons (pe_op op_sub (pe_callB call_len_seq (by rfl) T.z_len (by decide +kernel) (pa_cons (pv 1) pa_nil)) pe_int) (pa_cons (pe_call G_law_due (hr.mono (by decide)) (by rfl) T.g_law_due T.F_law_due.kp T.b_law_due .nil pass0 (pa_cons (pv 1) pa_nil)) pa_nil)) (by rfl))
    (pss_cons (ps_set (i := 4) sc_law_right.nd rfl (.inl rfl) (pe_call G_two_killers (hr.mono (by decide)) (by rfl) T.g_two_killers T.F_two_killers.kp T.b_two_killers .nil pass0 (pa_cons (pe_make T.mk_Form G_Form_init (hr.mono (by decide)) (by rfl) T.g_Form T.b_Form_init .nil pass0 (pa_cons (pv 1) pa_nil)) pa_nil)))
    (pss_cons (ps_if (pw_or (pt_not (pt_val (pe_callB call_isi (by rfl) T.z_isinstance (by decide +kernel) (pa_cons (pv 4) (pa_cons (pe_bltn (v := .ty "tuple") (by rfl) T.z_tuple (by decide +kernel) rfl) pa_nil))))) (pw_or1 (pt_cmpR (op_neD (hu64 hr)) (pe_lc (own := [("_law_one", 5)]) (g := (gName 5)) (tt := tYes) (by rfl) sc_law_right.nd (pi_tup (pv 4)) (blkOk_by (N := N_law_right) (sc := defScope s_law_right) (by decide +kernel)) (fun _ _ _ _ _ => (pg_name (i := 5) sc_law_right.nd rfl (.inl rfl))) (fun _ _ _ _ _ => pts_nil) (fun _ _ _ _ _ => (pe_callTy (OwnR.call_tupleF T.mt_Form_iter G_Form_iter T.b_Form_iter T.mt_Form_len G_Form_len T.b_Form_len (hr.mono (by decide)) : CallR _ _ (OwnR.rTupO K _ _ _ _ _)) (by rfl) T.z_tuple (by decide +kernel) (pa_cons (pv 5) pa_nil)))) (pe_callTy call_list_of (by rfl) T.z_list (by decide +kernel) (pa_cons (pv 3) pa_nil)) (nomark _)))).pt
      (pss_one (ps_ret pe_bl))
      pss_nil)
    (pss_cons (ps_if (pw_or (pt_cmpR op_ne (pe_op op_add (pe_callB call_len_seq (by rfl) T.z_len (by decide +kernel) (pa_cons (pe_ix ix_tup (pv 3) pe_int (fun _ _ => rfl)) pa_nil)) (pe_callB call_len_seq (by rfl) T.z_len (by decide +kernel) (pa_cons (pe_ix ix_tup (pv 3) pe_int (fun _ _ => rfl)) pa_nil))) (pe_op op_add (pv 2) pe_int) (nomark _)) (pw_or1 (pt_not (pt_val (pe_call G_law_is_apart (hr.mono (by decide)) (by rfl) T.g_law_is_apart T.F_law_is_apart.kp T.b_law_is_apart .nil pass0 (pa_cons (pe_ix ix_tup (pv 3) pe_int (fun _ _ => rfl)) (pa_cons (pe_ix ix_tup (pv 3) pe_int (fun _ _ => rfl)) pa_nil))))))).pt
      (pss_one (ps_ret pe_bl))
      pss_nil)
    (pss_cons (ps_if (pw_or (pt_not (pt_val (pe_call G_does_kill (hr.mono (by decide)) (by rfl) T.g_does_kill T.F_does_kill.kp T.b_does_kill .nil pass0 (pa_cons (pe_ix ix_tup (pv 4) pe_int (fun _ _ => rfl)) (pa_cons (pe_make T.mk_Form G_Form_init (hr.mono (by decide)) (by rfl) T.g_Form T.b_Form_init .nil pass0 (pa_cons (pv 1) pa_nil)) pa_nil))))) (pw_or1 (pt_not (pt_val (pe_call G_does_kill (hr.mono (by decide)) (by rfl) T.g_does_kill T.F_does_kill.kp T.b_does_kill .nil pass0 (pa_cons (pe_ix ix_tup (pv 4) pe_int (fun _ _ => rfl)) (pa_cons (pe_make T.mk_Form G_Form_init (hr.mono (by decide)) (by rfl) T.g_Form T.b_Form_init .nil pass0 (pa_cons (pv 1) pa_nil)) pa_nil))))))).pt
      (pss_one (ps_ret pe_bl))
      pss_nil)
    (pss_cons (ps_for PassesOwn.never (by rfl) (pi_range1 (by rfl) T.z_range (pa_cons (pe_op op_add (pv 2) pe_int) pa_nil)) (pg_name (i := 6) sc_law_right.nd rfl (.inl rfl))
      (pss_cons (ps_set (i := 7) sc_law_right.nd rfl (.inl rfl) (pe_lst pa_nil))
      (pss_cons (ps_for PassesOwn.never (by rfl) (pi_tup (pv 3)) (pg_name (i := 5) sc_law_right.nd rfl (.inl rfl))
        (pss_one (ps_set (i := 7) sc_law_right.nd rfl (.inl rfl) (pe_op op_cat (pv 7) (pe_ifExp (pt_cmpR op_le (pe_callB call_len_seq (by rfl) T.z_len (by decide +kernel) (pa_cons (pv 5) pa_nil)) (pe_op op_add (pv 6) pe_int) (nomark _)) (pe_call G_law_shifted_forms (hr.mono (by decide)) (by rfl) T.g_law_shifted_forms T.F_law_shifted_forms.kp T.b_law_shifted_forms .nil pass0 (pa_cons (pv 5) (pa_cons (pv 6) pa_nil))) (pe_lst pa_nil))))))
      (pss_one (ps_if (pt_cmpR op_ne (pe_call G_law_rank (hr.mono (by decide)) (by rfl) T.g_law_rank T.F_law_rank.kp T.b_law_rank .nil pass0 (pa_cons (pv 7) (pa_cons (pe_op op_add (pv 6) pe_int) pa_nil))) (pe_callB call_len_seq (by rfl) T.z_len (by decide +kernel) (pa_cons (pe_call G_law_killer_rows (hr.mono (by decide)) (by rfl) T.g_law_killer_rows T.F_law_killer_rows.kp T.b_law_killer_rows .nil pass0 (pa_cons (pv 1) (pa_cons (pv 6) pa_nil))) pa_nil)) (nomark _))
        (pss_one (ps_ret pe_bl))
        pss_nil)))))
    (pss_one (ps_ret (pe_and (pe_cmpR (op_eqD (hu64 hr)) (pe_prp (pe_call G_killed_by (hr.mono (by decide)) (by rfl) T.g_killed_by T.F_killed_by.kp T.b_killed_by .nil pass0 (pa_cons (pe_ix ix_tup (pv 4) pe_int (fun _ _ => rfl)) (pa_cons (pe_ix ix_tup (pv 4) pe_int (fun _ _ => rfl)) pa_nil))) T.oc_Form T.pr_Form_entries G_Form_entries T.b_Form_entries (hr.mono (by decide))) (pe_call G_law_plain (hr.mono (by decide)) (by rfl) T.g_law_plain T.F_law_plain.kp T.b_law_plain .nil pass0 (pa_cons (pv 1) pa_nil)) (nomark _)) (pe_one (pe_cmpR (op_eqF T.mt_Form_eq G_Form_eq T.b_Form_eq (hr.mono (by decide))) (pe_call G_killed_by (hr.mono (by decide)) (by rfl) T.g_killed_by T.F_killed_by.kp T.b_killed_by .nil pass0 (pa_cons (pe_ix ix_tup (pv 4) pe_int (fun _ _ => rfl)) (pa_cons (pe_ix ix_tup (pv 4) pe_int (fun _ _ => rfl)) pa_nil))) (pe_prp (pe_make T.mk_Form G_Form_init (hr.mono (by decide)) (by rfl) T.g_Form T.b_Form_init .nil pass0 (pa_cons (pv 1) pa_nil)) T.oc_Form T.pr_Form_primitive G_Form_primitive T.b_Form_primitive (hr.mono (by decide))) (nomark _)))))))))))))), ?_⟩
    refine ⟨_, rfl, _, rfl, d, 8, rfl, D0.dd, by decide, by decide, fun r0 H1 hr1 s1 d1 => ⟨_, _, rfl, rfl, d, r0 + 1, ?_, d1, by omega, fun pF H2 F s2 d2 hF bF nF => ?_⟩⟩
    · show [V.ref d, V.int (1 + (r0 : Int))] ++ [] = _
      rw [Int.add_comm]
      rfl
    have D2 : Dp d Ps H2 := (D0.sx s1 d1).sx s2 d2
    have S2 : Sy d Ps H H2 := (Sy.ofD s1).trans (Sy.ofD s2)
    clear s1 s2 d1 d2 D0
    obtain ⟨n, hn⟩ : ∃ n, r0 + 1 = n := ⟨_, rfl⟩
    rw [hn] at bF
    have n8 : n ≤ 8 := by omega
    have bF : Bd F n D14 := bF
    have L : Lv F n := ⟨n8, bF.len, bF.mem⟩
    have sF : ∀ x ∈ F, Sho x := bF.shoE
    have lF := L.lF
    obtain ⟨r, q, lw⟩ := low_of lF (nzr_iff.mp nF)
    have h1 := lw.hn; have h2 := lw.rq; have h3 := lw.hr
    have pr := pair_of lw
    have two := pr.two
    have sz := pr.sz L
    have ap := pr.ap
    have l1 := pr.l1
    have l2 := pr.l2
    refine ⟨_, rfl, pF, _, rfl, .inr (SqT.of hF), _, _, rfl, rfl, _, rfl, pF, F, n, r, q, rfl, hF, L, lw, fun pd b c H3 s3 ed eb ec => ⟨_, _, rfl, ?_⟩⟩
    dsimp only
    rw [List.length_map, show ((F.length : Nat) : Int) - 1 = ((n : Nat) : Int) by omega]
    have D3 := D2.same s3
    have S3 := S2.trans (Sy.of s3)
    have hF3 := s3 _ _ hF
    clear s3 D2 S2 hF
    refine ⟨_, rfl, fun x dx x1 x2 x3 => mkF x1 x2 x3 hF3 (by omega) (by omega) sF fun H4 s4 F4 => ⟨x, F, n, r, q, rfl, F4, L, lw, D3.tt.same s4, fun pt b2 c2 H5 s5 t5 et Fb Fc => ?_⟩⟩
    have v5 : Sts Ps H3 H5 := (Sts.of s4).trans s5
    have D5 : Dp d Ps H5 := ⟨v5.dc D3.tt D3.dd, t5⟩
    have S5 := S3.trans (Sy.ofP v5)
    have hF5 := v5.tup D3.tt hF3
    have ed5 := v5.tup D3.tt ed
    have eb5 := v5.tup D3.tt eb
    have ec5 := v5.tup D3.tt ec
    clear v5 s4 s5 F4 x1 x2 x3 t5 D3 S3 hF3 ed eb ec
    refine ⟨_, rfl, .ref pt, .ty "tuple", .type "tuple", .type "tuple", true, rfl, .ty "tuple", .base (.tup et), kit_ty (show kitB "tuple" "tuple" = some true by decide +kernel), true, rfl, iteF ?_⟩
    refine ⟨_, rfl, pt, rfl, ⟨_, SqT.of et⟩, fun D hD => lc_forms (bs := [b2, c2]) (R := [fk F r, sk F (fk F r) q]) hD et ⟨Fb, Fc, True.intro⟩ (by simp) (fun t ht => ?_) (fun _ => rfl) (fun ad H2 Q2 z => ⟨_, rfl, z⟩) (fun cs H6 s6 d6 r6 => ?_)⟩
    · simp only [List.mem_cons, List.not_mem_nil, or_false] at ht
      rcases ht with rfl | rfl <;> omega
    refine ⟨_, rfl, pd, _, rfl, .inr (SqT.of (s6 _ _ ed5)), fun L0 hL0 => gen_upd H6 L0 (.lst [.ref b, .ref c]) hL0 fun H7 s7 e7 => ?_⟩
    have s57 := s6.trans s7
    refine ne_rows (bs := [b, c]) (s7 _ _ d6) (RT.same r6 s7) e7 ⟨s57 _ _ eb5, s57 _ _ ec5, True.intro⟩ ⟨_, rfl, iteF ?_⟩
    have D7 := D5.same s57
    have S7 := S5.trans (Sy.of s57)
    have hF7 := s57 _ _ hF5
    have ed7 := s57 _ _ ed5
    have eb7 := s57 _ _ eb5
    have ec7 := s57 _ _ ec5
    have et7 := s57 _ _ et
    have Fb7 := Fb.same s57
    have Fc7 := Fc.same s57
    clear s57 s6 s7 d6 r6 e7 hD hL0 D5 S5 hF5 ed5 eb5 ec5 et Fb Fc
    have ac := pr.ac L
    -- apart
    dsimp only [tNext]
    refine ⟨_, rfl, pd, _, 0, _, rfl, rfl, SqT.of ed7, rfl, b, _, rfl, .inr (SqT.of eb7), _, rfl, pd, _, 1, _, rfl, rfl, SqT.of ed7, rfl, c, _, rfl, .inr (SqT.of ec7), _, _, rfl, rfl, _, rfl, _, _, rfl, rfl, rfl, _, rfl, ?_⟩
    rw [List.length_map, List.length_map, decide_eq_true (show V.int (((((fk F r).length : Nat) : Int)) + (((sk F (fk F r) q).length : Nat) : Int)) = V.int ((n : Int) + 4) by congr 1; omega)]
    refine iteF (A := False) ?_
    refine ⟨_, rfl, pd, _, 0, _, rfl, rfl, SqT.of ed7, rfl, _, rfl, pd, _, 1, _, rfl, rfl, SqT.of ed7, rfl, b, c, fk F r, sk F (fk F r) q, r, q, n, rfl, eb7, ec7, two, n8, sz, fun H8 s8 => ⟨apB (fk F r) (sk F (fk F r) q), rfl, ?_⟩⟩
    rw [ap]
    refine iteT (B := False) ?_
    dsimp only [tNext]
    have dk1 : dk (fk F r) F = true := dk_of l1 fun _ => kl_mem pr.m1
    have dk2 : dk (sk F (fk F r) q) F = true := dk_of l2 fun _ => kl_mem pr.m2
    refine ⟨_, rfl, pt, _, 0, _, rfl, rfl, SqT.of (s8 _ _ et7), rfl, _, rfl, fun x dx x1 x2 x3 => mkF x1 x2 x3 (s8 _ _ hF7) (by omega) (by omega) sF fun H9 s9 F9 => ⟨b2, x, fk F r, F, rfl, (Fb7.same s8).same s9, F9, ac.1, fun H10 s10 => ⟨dk (fk F r) F, rfl, ?_⟩⟩⟩
    rw [dk1]
    refine iteT (B := False) ?_
    have s8a := s8.trans (s9.trans s10)
    refine ⟨_, rfl, pt, _, 1, _, rfl, rfl, SqT.of (s8a _ _ et7), rfl, _, rfl, fun y dy y1 y2 y3 => mkF y1 y2 y3 (s8a _ _ hF7) (by omega) (by omega) sF fun H11 s11 F11 => ⟨c2, y, sk F (fk F r) q, F, rfl, (Fc7.same s8a).same s11, F11, ac.2, fun H12 s12 => ⟨dk (sk F (fk F r) q) F, rfl, ?_⟩⟩⟩
    rw [dk2]
    refine iteT (B := False) ?_
    dsimp only [tNext]
    have s8b := s8a.trans (s11.trans s12)
    have D12 := D7.same s8b
    have S12 := S7.trans (Sy.of s8b)
    have hF12 := s8b _ _ hF7
    have ed12 := s8b _ _ ed7
    have eb12 := s8b _ _ eb7
    have ec12 := s8b _ _ ec7
    have et12 := s8b _ _ et7
    have Fb12 := Fb7.same s8b
    have Fc12 := Fc7.same s8b
    clear s8b s8a s8 s9 s10 s11 s12 F9 F11 x1 x2 x3 y1 y2 y3 D7 S7 hF7 ed7 eb7 ec7 et7 Fb7 Fc7
    -- all degrees
    refine ⟨_, rfl, _, _, rfl, rfl, _, rfl, by omega, by omega, for_range (n := ((n : Int) + 2).toNat) (fun i σ H' => ∃ y5 y6 y7, σ = [some (.ref d), some (.ref pF), some (.int (n : Nat)), some (.ref pd), some (.ref pt), y5, y6, y7] ∧ Same H12 H') ⟨none, none, none, rfl, Same.rf H12⟩ (fun i σ H' hi hP => ?_) (fun σ H' hP => ?_)⟩
    · obtain ⟨y5, y6, y7, rfl, sH⟩ := hP
      have i9 : i ≤ n + 1 := by omega
      refine ⟨Nat.zero_le _, fun m0 nm => gen_upd H' m0 (.lst []) nm fun H13 s13 e13 => ?_⟩
      have s23 := sH.trans s13
      let rw2 : Nat → List (List Int) := fun j => if j = 0 then [] else if j = 1 then shf (fk F r) i else urows (fk F r) (sk F (fk F r) q) i
      have rl : ∀ j, j ≤ 2 → (rw2 j).length ≤ 20 := fun j hj => by
        show (if j = 0 then [] else if j = 1 then shf (fk F r) i else urows (fk F r) (sk F (fk F r) q) i).length ≤ 20
        split
        · exact Nat.zero_le _
        · split
          · rw [shf_len]
            omega
          · rw [urows_len]
            omega
      refine ⟨_, rfl, pd, rfl, ⟨_, SqT.of (s23 _ _ ed12)⟩, for_tup (xs := [.ref b, .ref c]) (fun j σ H' => ∃ m as y5, σ = [some (.ref d), some (.ref pF), some (.int (n : Nat)), some (.ref pd), some (.ref pt), y5, some (.int (0 + (i : Int))), some (.ref m)] ∧ Same H13 H' ∧ H' m = some (.lst (as.map V.ref)) ∧ RT H' as (rw2 j)) ⟨m0, [], y5, rfl, Same.rf H13, e13, True.intro⟩ (fun j σ H' _ hP => ?_) (fun j x σ H' hx hP => ?_) (fun σ H' hP => ?_)⟩
      · obtain ⟨m, as, y5, rfl, sJ, _⟩ := hP
        exact SqT.of (sJ _ _ (s23 _ _ ed12))
      · obtain ⟨m, as, y5, rfl, sJ, mJ, tJ⟩ := hP
        have s2J := s23.trans sJ
        obtain ⟨u, g, rfl, hu, g1, em, j2⟩ : ∃ u g, x = V.ref u ∧ H' u = some (tp g) ∧ 1 ≤ g.length ∧ rw2 (j + 1) = rw2 j ++ shf g i ∧ j < 2 := by
          match j, hx with
          | 0, hx =>
            cases hx
            exact ⟨b, _, rfl, s2J _ _ eb12, by omega, rfl, by omega⟩
          | 1, hx =>
            cases hx
            exact ⟨c, _, rfl, s2J _ _ ec12, by omega, rfl, by omega⟩
        have lA : as.length = (rw2 j).length := RX.len tJ
        have lB := rl j (by omega)
        have lC := rl (j + 1) (by omega)
        rw [em, List.length_append] at lC
        refine ⟨_, rfl, _, rfl, u, _, rfl, .inr (SqT.of hu), _, rfl, _, _, rfl, rfl, _, _, rfl, rfl, _, rfl, ?_⟩
        rw [List.length_map]
        by_cases cc : g.length ≤ i + 1
        · rw [decide_eq_true (show ((g.length : Nat) : Int) ≤ 0 + (i : Int) + 1 by omega)]
          refine iteT ⟨_, rfl, _, rfl, u, g, i, ?_, hu, g1, by omega, by omega, fun pa bs H2 s2 a2 t2 => ?_⟩
          · show [V.ref u, V.int (0 + (i : Int))] ++ [] = _
            rw [Int.zero_add]
            rfl
          refine ⟨m, pa, _, _, rfl, rfl, s2 _ _ mJ, a2, ?_, fun pc nc => gen_upd H2 pc (.lst (as.map V.ref ++ bs.map V.ref)) nc fun H4 s4 c4 => ⟨pc, as ++ bs, _, rfl, sJ.trans (s2.trans s4), by rw [List.map_append]; exact c4, ?_⟩⟩
          · have := RX.len t2
            rw [List.length_map, List.length_map]
            exact Nat.le_of_lt (small1000 (n := as.length + bs.length) (by omega))
          · rw [em]
            exact rt_app (tJ.same (s2.trans s4)) (t2.same s4)
        · rw [decide_eq_false (show ¬ ((g.length : Nat) : Int) ≤ 0 + (i : Int) + 1 by omega)]
          refine iteF ⟨Nat.zero_le _, fun pa np => gen_upd H' pa (.lst []) np fun H2 s2 a2 => ?_⟩
          have t2 : RT H2 [] (shf g i) := by
            rw [shf_nil (by omega)]
            exact True.intro
          obtain ⟨bs, eb0⟩ : ∃ bs : List Addr, [] = bs := ⟨_, rfl⟩
          have a2 : H2 pa = some (.lst (bs.map V.ref)) := by rw [← eb0]; exact a2
          rw [eb0] at t2
          refine ⟨m, pa, _, _, rfl, rfl, s2 _ _ mJ, a2, ?_, fun pc nc => gen_upd H2 pc (.lst (as.map V.ref ++ bs.map V.ref)) nc fun H4 s4 c4 => ⟨pc, as ++ bs, _, rfl, sJ.trans (s2.trans s4), by rw [List.map_append]; exact c4, ?_⟩⟩
          · have := RX.len t2
            rw [List.length_map, List.length_map]
            exact Nat.le_of_lt (small1000 (n := as.length + bs.length) (by omega))
          · rw [em]
            exact rt_app (tJ.same (s2.trans s4)) (t2.same s4)
      · obtain ⟨m, as, y5, rfl, sJ, mJ, tJ⟩ := hP
        have tJ : RT H' as (urows (fk F r) (sk F (fk F r) q) i) := tJ
        have ll := rl 2 (by omega)
        have ll : (urows (fk F r) (sk F (fk F r) q) i).length ≤ 10 := by
          rw [urows_len]
          omega
        have s2J := s23.trans sJ
        have hM := urows_mem (d := i) sz.f sz.g
        refine ⟨_, rfl, _, rfl, _, _, rfl, rfl, m, as, urows (fk F r) (sk F (fk F r) q) i, i + 1, ?_, .inr mJ, RX.imp (fun a r e => .inl e) tJ, by omega, by omega, urows_w, (eok_urows urows_w hM ll).2, fun H4 s4 => ?_⟩
        · show [V.ref m, V.int (0 + (i : Int) + 1)] ++ [] = _
          rw [Int.zero_add]
          rfl
        refine ⟨_, rfl, _, rfl, pF, F, i, ?_, s4 _ _ (s2J _ _ hF12), L.lw, by omega, L.kb i9, fun pk ks H6 s6 e6 r6 => ⟨pk, _, rfl, .inl (SqL.of e6), rfl, _, rfl, ?_⟩⟩
        · show [V.ref pF, V.int (0 + (i : Int))] ++ [] = _
          rw [Int.zero_add]
          rfl
        rw [List.length_map, RX.len r6, ← ech_eq urows_w, pr.rank i9]
        rw [decide_eq_true (show V.int ((K65.kd F i : Nat) : Int) = V.int (((kern (lrows F i) (i + 1)).length : Nat) : Int) from rfl)]
        exact iteF ⟨_, _, _, rfl, s2J.trans (s4.trans s6)⟩
    · obtain ⟨y5, y6, y7, rfl, sH⟩ := hP
      have D13 := D12.same sH
      have S13 := S12.trans (Sy.of sH)
      have hF13 := sH _ _ hF12
      have et13 := sH _ _ et12
      have Fb13 := Fb12.same sH
      have Fc13 := Fc12.same sH
      clear sH D12 S12 hF12 ed12 eb12 ec12 et12 Fb12 Fc12
      refine ⟨_, rfl, pt, _, 0, _, rfl, rfl, SqT.of et13, rfl, _, rfl, pt, _, 1, _, rfl, rfl, SqT.of et13, rfl, b2, c2, fk F r, sk F (fk F r) q, r, q, n, rfl, Fb13, Fc13, two, n8, sz, D13.tt, ap, fun pk H14 s14 t14 f14 => ?_⟩
      rw [pr.wf n8] at f14
      have D14' := D13.sp s14 t14
      have S14 := S13.trans (Sy.ofP s14)
      have hF14 := s14.tup D13.tt hF13
      have et14 := s14.tup D13.tt et13
      have Fb14 := s14.fo D13.tt Fb13
      have Fc14 := s14.fo D13.tt Fc13
      have smF : ∀ x ∈ F, sm x := fun x hx => Nat.lt_of_le_of_lt (L.bd x hx) (by decide +kernel)
      refine prop_ent f14 fun u hu => ⟨_, rfl, pF, F, rfl, hF14, by omega, smF, fun p H15 s15 e15 => eq_same (SqT.of (s15 _ _ hu)) (SqT.of e15) ⟨true, rfl, iteT ?_⟩⟩
      refine ⟨_, rfl, pt, _, 1, _, rfl, rfl, SqT.of (s15 _ _ et14), rfl, _, rfl, pt, _, 0, _, rfl, rfl, SqT.of (s15 _ _ et14), rfl, c2, b2, sk F (fk F r) q, fk F r, q, r, n, rfl, Fc14.same s15, Fb14.same s15, two.sw, n8, sz.sw, D14'.tt.same s15, by rw [sw_ap]; exact ap, fun pk2 H16 s16 t16 f16 => ?_⟩
      rw [pr.wf2 n8] at f16
      have D15 := D14'.same s15
      have D16 := D15.sp s16 t16
      have S16 := S14.trans ((Sy.of s15).trans (Sy.ofP s16))
      have hF16 := s16.tup D15.tt (s15 _ _ hF14)
      refine ⟨_, rfl, fun x dx x1 x2 x3 => mkF x1 x2 x3 hF16 (by omega) (by omega) sF fun H17 s17 F17 => ?_⟩
      refine prop_prim F17 ⟨fun e => (by rw [e] at lF; cases lF), by omega, smF⟩ fun p2 H18 s18 F18 => ?_
      refine eq_forms T.oc_Form (f16.same (s17.trans s18)) F18 ?_
      rw [decide_eq_true rfl]
      exact k H18 (S16.trans (Sy.of (s17.trans s18))) (D16.same (s17.trans s18))
end
end K65

set_option Elab.async false
set_option linter.all false
set_option maxRecDepth 100000
set_option maxHeartbeats 4000000
set_option exponentiation.threshold 10000
namespace K65
open PySem PySem.Spec PyProof.Rows L2 StX RZ MyR SlX OwnR OwnF EnumT GxR GenNx FDivQ LA
def lawF : List (List Int) := [[1, 0, -3, 1], [1, 2, 1, 0], [1, 0, 0, 1, 0], [0, 1, 0, 0, 0, -1, 0], [7]]
def lawR : List Nat := [2, 2, 3, 4, 1]
def lawD : List (List (List Int)) := [[[1, 1, 1], [0, 1, 0, 0]], [[1, -2, 1], [1, 0, -3, 0]], [[1, 0, 0, -4], [0, 1, 0, 0]], [[1, 0, 0, 0, 1], [0, 0, 1, 0, 0]], [[1, 0], [0, 1]]]
def lowB (F : List Int) (n r q : Nat) : Bool := decide (F.length = n + 1) && decide (1 ≤ r) && decide (r ≤ q) && decide (r + q = n + 2) && ((List.range r).all fun d => decide (kd F d = 0)) && ((List.range (n + 1)).all fun d => decide (rk F d = min (d + 1) (min r (n + 1 - d)))) && ((List.range F.length).any fun k => decide (co F k ≠ 0))
theorem low_by {F : List Int} {n r q : Nat} (h : lowB F n r q = true) : Low F n r q := by
  unfold lowB at h
  simp only [Bool.and_eq_true, decide_eq_true_eq, List.all_eq_true, List.any_eq_true, List.mem_range] at h
  obtain ⟨⟨⟨⟨⟨⟨h1, h2⟩, h3⟩, h4⟩, h5⟩, h6⟩, k, h7, h8⟩ := h
  exact ⟨h1, h2, h3, h4, h5, h6, k, h7, h8⟩
theorem law_ok : ∀ j, j < 5 → (let F := lawF.getD j []; let r := lawR.getD j 0; let n := F.length - 1; let q := n + 2 - r; lowB F n r q && decide ([fk F r, sk F (fk F r) q] = lawD.getD j []) && decide (nm F ≤ 7) && decide (F.length ≤ 8) && decide (1 ≤ F.length)) = true := by decide +kernel
theorem law_at {j : Nat} (hj : j < 5) {F : List Int} (hF : lawF[j]? = some F) : ∃ n r q, Low F n r q ∧ lawD[j]? = some [fk F r, sk F (fk F r) q] ∧ Bd F n 7 ∧ F.length ≤ 8 ∧ 1 ≤ F.length := by
  have h := law_ok j hj
  have e : lawF.getD j [] = F := by rw [List.getD_eq_getElem?_getD, hF]; rfl
  dsimp only at h
  rw [e] at h
  simp only [Bool.and_eq_true, decide_eq_true_eq] at h
  obtain ⟨⟨⟨⟨h1, h2⟩, h3⟩, h4⟩, h5⟩ := h
  refine ⟨_, _, _, low_by h1, ?_, ⟨by omega, h3⟩, h4, h5⟩
  rw [h2]
  have : j < lawD.length := hj
  rw [List.getD_eq_getElem?_getD, List.getElem?_eq_getElem this]
  rfl
/-- a list of lists of tuples, none of them D -/
def RL (D : Addr) (H : Hp) : List Addr → List (List (List Int)) → Prop
  | [], [] => True
  | a :: as, R :: Rs => (a ≠ D ∧ ∃ cs : List Addr, H a = some (.lst (cs.map V.ref)) ∧ RT H cs R) ∧ RL D H as Rs
  | _, _ => False
theorem RL.imp {D : Addr} {H H' : Hp} (k1 : ∀ a xs, a ≠ D → H a = some (.lst xs) → H' a = some (.lst xs)) (k2 : ∀ a xs, H a = some (.tup xs) → H' a = some (.tup xs)) : ∀ {as : List Addr} {Rs : List (List (List Int))}, RL D H as Rs → RL D H' as Rs
  | [], [], _ => True.intro
  | a :: as, R :: Rs, ⟨⟨n, cs, h1, h2⟩, h3⟩ => ⟨⟨n, cs, k1 _ _ n h1, RX.imp (fun a r e => k2 _ _ e) h2⟩, RL.imp k1 k2 h3⟩
theorem RL.app {D : Addr} {H : Hp} {e : Addr} {cs : List Addr} {R : List (List Int)} (n : e ≠ D) (h1 : H e = some (.lst (cs.map V.ref))) (h2 : RT H cs R) : ∀ {as : List Addr} {Rs : List (List (List Int))}, RL D H as Rs → RL D H (as ++ [e]) (Rs ++ [R])
  | [], [], _ => ⟨⟨n, cs, h1, h2⟩, True.intro⟩
  | _ :: _, _ :: _, h => ⟨h.1, RL.app n h1 h2 h.2⟩
theorem RL.len {D : Addr} {H : Hp} : ∀ {as : List Addr} {Rs : List (List (List Int))}, RL D H as Rs → as.length = Rs.length
  | [], [], _ => rfl
  | _ :: _, _ :: _, h => by rw [List.length_cons, List.length_cons, RL.len h.2]
theorem RL.dp {K : PySem.W.Frag} {D : Addr} {H : Hp} : ∀ {as : List Addr} {Rs : List (List (List Int))}, RL D H as Rs → DpAll K H (as.map V.ref) (Rs.map fun R => PyData.list (TD R))
  | [], [], _ => .nil
  | _ :: _, _ :: _, ⟨⟨_, cs, h1, h2⟩, h3⟩ => .cons (.lst (SqL.of h1) (dpAll_rt h2)) (RL.dp h3)
theorem lay_law : PyData.canLay0 (.list (lawD.map fun R => PyData.list (TD R))) = true := by decide +kernel
theorem shp_law : SeqAt.shaped (.list (lawD.map fun R => PyData.list (TD R))) = true := by decide +kernel
section
variable {P : Program} {w : World} {K : PySem.W.Frag} {mg : Str → Option Value} {base : Heap}
theorem ok_law (T : Facts K mg) (TB_first_of : TabB base mg T.c_first_of T.P_first_of) (TB_first_index : TabB base mg T.c_first_index T.P_first_index) (TB_second_killer : TabB base mg T.c_second_killer T.P_second_killer) :
    FnOk P w K mg base CX0 11 T.f_law T.fd_law ["_law_script"] (spLawT K [T.P_first_of, T.P_first_index, T.P_second_killer]) := by
  obtain ⟨Ps, ePs⟩ : ∃ Ps, [T.P_first_of, T.P_first_index, T.P_second_killer] = Ps := ⟨_, rfl⟩
  have hP : T.P_first_of ∈ Ps := by rw [← ePs]; simp
  have hI : T.P_first_index ∈ Ps := by rw [← ePs]; simp
  have hS : T.P_second_killer ∈ Ps := by rw [← ePs]; simp
  rw [ePs]
  have G_law_dice := ok_law_dice (P := P) (w := w) (base := base) T
  have G_law_right := ok_law_right (P := P) (w := w) (base := base) T TB_first_of hP TB_first_index hI TB_second_killer hS
  have G_two_killers := ok_two_killers (P := P) (w := w) (base := base) T TB_first_of hP TB_first_index hI TB_second_killer hS
  have G_Form_init : FnOk P w K mg base CX0 5 T.f_Form_init T.fd_Form_init ["self", "entries"] (spForm T.C_Told T.C_Form) := ok_Form_init T
  have G_Form_iter := ok_Form_iter (P := P) (w := w) (base := base) T
  have G_Form_len := ok_Form_len (P := P) (w := w) (base := base) T
  refine T.F_law.ok sc_law (fun vs H Q E h => ?_) (fun cdv A outer s H vs Q E hr h => ?_)
  · obtain ⟨a, ns, rfl, _⟩ := h
    rfl
  · obtain ⟨a, ns, rfl, ha, hn, hG, q⟩ := h
    refine ⟨_, (PSs.nox (pss_cons (ps_for PassesOwn.never (by rfl) (pi_range1 (by rfl) T.z_range (pa_cons (pe_callB (call_max2 (by rfl)) (by rfl) T.z_max (by decide +kernel) (pa_cons pe_int (pa_cons (pe_callB (call_min2 (by rfl)) (by rfl) T.z_min (by decide +kernel) (pa_cons pe_int (pa_cons (pe_callB call_len_seq (by rfl) T.z_len (by decide +kernel) (pa_cons (pv 0) pa_nil)) pa_nil))) pa_nil))) pa_nil)) (pg_name (i := 1) sc_law.nd rfl (.inl rfl))
      (pss_cons (ps_set (i := 2) sc_law.nd rfl (.inl rfl) (pe_call G_law_dice (hr.mono (by decide)) (by rfl) T.g_law_dice T.F_law_dice.kp T.b_law_dice .nil pass0 (pa_cons (pv 0) (pa_cons (pv 1) pa_nil))))
      (pss_one (ps_if (pw_or (pt_not (pt_val (pe_call G_law_right hr (by rfl) T.g_law_right T.F_law_right.kp T.b_law_right .nil pass0 (pa_cons (pv 2) pa_nil)))) (pw_or1 (pt_not (pt_val (pe_call G_law_right hr (by rfl) T.g_law_right T.F_law_right.kp T.b_law_right .nil pass0 (pa_cons (pv 2) pa_nil)))))).pt
        (pss_one (ps_ret pe_bl))
        pss_nil))))
    (pss_cons (ps_set (i := 3) sc_law.nd rfl (.inl rfl) (pe_lst (pa_cons (pe_tup (pa_cons pe_int (pa_cons pe_int (pa_cons (pe_un un_neg pe_int) (pa_cons pe_int pa_nil))))) (pa_cons (pe_tup (pa_cons pe_int (pa_cons pe_int (pa_cons pe_int (pa_cons pe_int pa_nil))))) (pa_cons (pe_tup (pa_cons pe_int (pa_cons pe_int (pa_cons pe_int (pa_cons pe_int (pa_cons pe_int pa_nil)))))) (pa_cons (pe_tup (pa_cons pe_int (pa_cons pe_int (pa_cons pe_int (pa_cons pe_int (pa_cons pe_int (pa_cons (pe_un un_neg pe_int) (pa_cons pe_int pa_nil)))))))) (pa_cons (pe_tup (pa_cons pe_int pa_nil)) pa_nil)))))))
    (pss_cons (ps_setLc (i := 4) (own := [("_law_form_here", 6)]) (g := (gName 6)) (tt := tYes) rfl sc_law.nd rfl rfl (sw_true rfl rfl rfl (by decide +kernel)) (pi_list (pv 3)) (blkOk_by (N := N_law) (sc := defScope s_law) (by decide +kernel)) (fun _ _ _ _ _ => (pg_name (i := 6) sc_law.nd rfl (.inl rfl))) (fun _ _ _ _ _ => pts_nil) (fun _ _ _ _ _ => (pe_lc (own := [("_law_one", 5)]) (g := (gName 5)) (tt := tYes) (by rfl) sc_law.nd (pi_tup (pe_call G_two_killers (hr.mono (by decide)) (by rfl) T.g_two_killers T.F_two_killers.kp T.b_two_killers .nil pass0 (pa_cons (pe_make T.mk_Form G_Form_init (hr.mono (by decide)) (by rfl) T.g_Form T.b_Form_init .nil pass0 (pa_cons (pv 6) pa_nil)) pa_nil)) : PI _ _ _ (iTup K _)) (blkOk_by (N := N_law) (sc := relS _ (defScope s_law)) (by decide +kernel)) (fun _ _ _ _ _ => (pg_name (i := 5) sc_law.nd rfl (.inl rfl))) (fun _ _ _ _ _ => pts_nil) (fun _ _ _ _ _ => (pe_callTy (OwnR.call_tupleF T.mt_Form_iter G_Form_iter T.b_Form_iter T.mt_Form_len G_Form_len T.b_Form_len (hr.mono (by decide)) : CallR _ _ (OwnR.rTupO K _ _ _ _ _)) (by rfl) T.z_tuple (by decide +kernel) (pa_cons (pv 5) pa_nil))))))
    (pss_cons (ps_set (i := 7) sc_law.nd rfl (.inl rfl) (pe_lst (pa_cons (pe_lst (pa_cons (pe_tup (pa_cons pe_int (pa_cons pe_int (pa_cons pe_int pa_nil)))) (pa_cons (pe_tup (pa_cons pe_int (pa_cons pe_int (pa_cons pe_int (pa_cons pe_int pa_nil))))) pa_nil))) (pa_cons (pe_lst (pa_cons (pe_tup (pa_cons pe_int (pa_cons (pe_un un_neg pe_int) (pa_cons pe_int pa_nil)))) (pa_cons (pe_tup (pa_cons pe_int (pa_cons pe_int (pa_cons (pe_un un_neg pe_int) (pa_cons pe_int pa_nil))))) pa_nil))) (pa_cons (pe_lst (pa_cons (pe_tup (pa_cons pe_int (pa_cons pe_int (pa_cons pe_int (pa_cons (pe_un un_neg pe_int) pa_nil))))) (pa_cons (pe_tup (pa_cons pe_int (pa_cons pe_int (pa_cons pe_int (pa_cons pe_int pa_nil))))) pa_nil))) pa_nil)))))
    (pss_one (ps_ret (pe_cmpR (op_eqD (hu64 hr)) (pv 4) (pe_op op_cat (pv 7) (pe_lst (pa_cons (pe_lst (pa_cons (pe_tup (pa_cons pe_int (pa_cons pe_int (pa_cons pe_int (pa_cons pe_int (pa_cons pe_int pa_nil)))))) (pa_cons (pe_tup (pa_cons pe_int (pa_cons pe_int (pa_cons pe_int (pa_cons pe_int (pa_cons pe_int pa_nil)))))) pa_nil))) (pa_cons (pe_lst (pa_cons (pe_tup (pa_cons pe_int (pa_cons pe_int pa_nil))) (pa_cons (pe_tup (pa_cons pe_int (pa_cons pe_int pa_nil))) pa_nil))) pa_nil)))) (nomark _))))))))), ?_⟩
    refine ⟨_, rfl, a, _, rfl, .inl ha, 3, _, rfl, 1, _, rfl, ?_⟩
    rw [List.length_map]
    obtain ⟨n, hn1, hn0⟩ : ∃ n : Int, (if (if ((ns.length : Nat) : Int) < 3 then ((ns.length : Nat) : Int) else 3) > 1 then (if ((ns.length : Nat) : Int) < 3 then ((ns.length : Nat) : Int) else 3) else 1) = n ∧ 0 ≤ n ∧ n ≤ 3 := ⟨_, rfl, by split <;> split <;> omega, by split <;> split <;> omega⟩
    rw [hn1]
    refine ⟨_, rfl, by omega, by omega, for_range (n := n.toNat) (fun i σ H' => ∃ y1 y2, σ = [some (.ref a), y1, y2, none, none, none, none, none] ∧ SqL K H' a (ns.map V.int) ∧ Tg Ps H') ⟨none, none, rfl, ha, hG⟩ (fun i σ H1 hi hP => ?_) (fun σ H1 hP => ?_)⟩
    · obtain ⟨y1, y2, rfl, h1, p1⟩ := hP
      refine ⟨_, rfl, _, rfl, a, ns, i, ?_, h1, fun d x y z nd => ?_⟩
      · show [V.ref a, V.int (0 + (i : Int))] ++ [] = _
        rw [Int.zero_add]
        rfl
      have D1 : Dp d Ps (upd H1 d (dice x y z)) := ⟨⟨x, y, z, upd_same⟩, p1.same (same_upd0 nd)⟩
      refine ⟨_, rfl, d, rfl, D1, fun H2 s2 D2 => ⟨true, rfl, iteT (B := False) ⟨_, rfl, d, rfl, D2, fun H3 s3 D3 => ⟨true, rfl, iteF ⟨_, _, rfl, script_Sy (s2.trans s3) nd p1 h1, D3.tt⟩⟩⟩⟩⟩
    · obtain ⟨y1, y2, rfl, h1, t1⟩ := hP
      have z1 : 1 ≤ sizeLine := by decide
      have z2 : 2 ≤ sizeLine := by decide
      have z3 : 3 ≤ sizeLine := by decide
      have z4 : 4 ≤ sizeLine := by decide
      have z5 : 5 ≤ sizeLine := by decide
      have z7 : 7 ≤ sizeLine := by decide
      refine ⟨3, rfl, z4, fun q0 n0 => gen_upd H1 q0 (tp [1, 0, -3, 1]) n0 fun H2 s2 e2 => ⟨z4, fun q1 n1 => gen_upd H2 q1 (tp [1, 2, 1, 0]) n1 fun H3 s3 e3 => ⟨z5, fun q2 n2 => gen_upd H3 q2 (tp [1, 0, 0, 1, 0]) n2 fun H4 s4 e4 => ⟨1, rfl, z7, fun q3 n3 => gen_upd H4 q3 (tp [0, 1, 0, 0, 0, -1, 0]) n3 fun H5 s5 e5 => ⟨z1, fun q4 n4 => gen_upd H5 q4 (tp [7]) n4 fun H6 s6 e6 => ⟨z5, fun L nL => gen_upd H6 L (.lst ([q0, q1, q2, q3, q4].map V.ref)) nL fun H10 s10 e10 => ?_⟩⟩⟩⟩⟩⟩
      have r10 : RT H10 [q0, q1, q2, q3, q4] lawF := by
        have u6 := s10
        have u5 := s6.trans u6
        have u4 := s5.trans u5
        have u3 := s4.trans u4
        have u2 := s3.trans u3
        exact ⟨u2 _ _ e2, u3 _ _ e3, u4 _ _ e4, u5 _ _ e5, u6 _ _ e6, True.intro⟩
      have t10 := t1.same (s2.trans (s3.trans (s4.trans (s5.trans (s6.trans s10)))))
      clear s2 s3 s4 s5 s6 s10 e2 e3 e4 e5 e6
      have l8 : [q0, q1, q2, q3, q4].length = 5 := rfl
      generalize [q0, q1, q2, q3, q4] = as at e10 r10 l8
      refine ⟨_, rfl, L, rfl, ⟨_, SqL.of e10⟩, fun D hD => lc_list (xs := as.map V.ref) (fun j H' => Sts Ps H10 H' ∧ Tg Ps H' ∧ ∃ es, H' D = some (.lst (es.map V.ref)) ∧ RL D H' es (lawD.take j)) ⟨Sts.of (same_upd0 hD), t10.same (same_upd0 hD), [], upd_same, True.intro⟩ (fun j H' _ hP => SqL.of (hP.1.lst t10 e10)) (fun j x H' hx hP => ?_) (fun H' hP => ?_)⟩
      · obtain ⟨sH, tH, es, hL, rL⟩ := hP
        have hj : j < 5 := by
          have := (List.getElem?_eq_some_iff.mp hx).1
          rw [List.length_map] at this
          omega
        obtain ⟨o, F, eo, er, fo⟩ := RX.get r10 (i := j) hj
        rw [List.getElem?_map, eo] at hx
        cases hx
        obtain ⟨m, r, q2, lw, ed, bF, l9, l1⟩ := law_at hj er
        have lF := lw.lF
        have L2 : Lv F m := ⟨by omega, lF, fun x hx => Nat.le_trans (bF.mem x hx) (by decide)⟩
        have pr := pair_of lw
        have p1 := pr.l1
        have p2 := pr.l2
        have h1' := lw.hn
        have fo' := sH.tup t10 fo
        refine ⟨rfl, _, rfl, fun x dx x1 x2 x3 => mkF x1 x2 x3 fo' l1 (by omega) (fun x hx => Nat.lt_of_le_of_lt (bF.mem x hx) (by decide +kernel)) fun H11 s11 F11 => ⟨x, F, m, r, q2, rfl, F11, L2, lw, tH.same s11, fun pt b2 c2 H12 s12 t12 et Fb Fc => ?_⟩⟩
        refine ⟨pt, rfl, ⟨_, SqT.of et⟩, fun D2 hD2 => lc_forms (bs := [b2, c2]) (R := [fk F r, sk F (fk F r) q2]) hD2 et ⟨Fb, Fc, True.intro⟩ (by simp) (fun t ht => ?_) (fun _ => rfl) (fun ad H2 Q2 z => ⟨_, rfl, z⟩) (fun cs H13 s13 d13 r13 => ?_)⟩
        · simp only [List.mem_cons, List.not_mem_nil, or_false] at ht
          rcases ht with rfl | rfl <;> omega
        have t11 := tH.same s11
        have hL12 := s12.lst t11 (s11 _ _ hL)
        have hL13 := s13 _ _ hL12
        have nD : D2 ≠ D := (ne_of_none hL12 hD2).symm
        refine ⟨_, hL13, ?_, fun b o nb e => ?_, ?_, es ++ [D2], ?_, ?_⟩
        · rw [List.length_map]
          have := rL.len
          rw [List.length_take] at this
          exact small1000 (by omega)
        · rw [upd_ne (ne_of_none e hD)]
          exact s13 _ _ (s12 _ _ nb (s11 _ _ (sH _ _ nb e)))
        · exact tg_updL (t12.same s13) hL13
        · rw [upd_same, List.map_append]
          rfl
        · rw [List.take_add_one, ed]
          refine RL.app nD (cs := cs) ?_ ?_ (rL.imp (fun a xs na e => ?_) fun a xs e => ?_)
          · rw [upd_ne nD]
            exact d13
          · exact RX.imp (fun a r e => by rw [upd_ne (ne_of e hL13 fun z => by cases z)]; exact e) r13
          · rw [upd_ne na]
            exact s13 _ _ (s12.lst t11 (s11 _ _ e))
          · rw [upd_ne (ne_of e hL fun z => by cases z)]
            exact s13 _ _ (s12.tup t11 (s11 _ _ e))
      · obtain ⟨sH, tH, es, hL, rL⟩ := hP
        rw [List.length_map, l8, show lawD.take 5 = lawD from rfl] at rL
        have dL : DpAll K H' (es.map V.ref) (lawD.map fun R => PyData.list (TD R)) := rL.dp
        dsimp only [tNext, tSeq, tAsg, tRet, tOp, tLst]
        refine ⟨z3, fun a1 n1 => gen_upd H' a1 (tp [1, 1, 1]) n1 fun J1 s1 e1 => ⟨z4, fun a2 n2 => gen_upd J1 a2 (tp [0, 1, 0, 0]) n2 fun J2 s2 e2 => ⟨z2, fun l1 m1 => gen_upd J2 l1 (.lst [.ref a1, .ref a2]) m1 fun J3 s3 f1 =>
          ⟨2, rfl, z3, fun a3 n3 => gen_upd J3 a3 (tp [1, -2, 1]) n3 fun J4 s4 e3 => ⟨3, rfl, z4, fun a4 n4 => gen_upd J4 a4 (tp [1, 0, -3, 0]) n4 fun J5 s5 e4 => ⟨z2, fun l2 m2 => gen_upd J5 l2 (.lst [.ref a3, .ref a4]) m2 fun J6 s6 f2 =>
          ⟨4, rfl, z4, fun a5 n5 => gen_upd J6 a5 (tp [1, 0, 0, -4]) n5 fun J7 s7 e5 => ⟨z4, fun a6 n6 => gen_upd J7 a6 (tp [0, 1, 0, 0]) n6 fun J8 s8 e6 => ⟨z2, fun l3 m3 => gen_upd J8 l3 (.lst [.ref a5, .ref a6]) m3 fun J9 s9 f3 =>
          ⟨z3, fun U nU => gen_upd J9 U (.lst [.ref l1, .ref l2, .ref l3]) nU fun J10 s10 eU => ?_⟩⟩⟩⟩⟩⟩⟩⟩⟩⟩
        refine ⟨_, rfl, _, rfl, z5, fun a7 n7 => gen_upd J10 a7 (tp [1, 0, 0, 0, 1]) n7 fun J11 s11 e7 => ⟨z5, fun a8 n8 => gen_upd J11 a8 (tp [0, 0, 1, 0, 0]) n8 fun J12 s12 e8 => ⟨z2, fun l4 m4 => gen_upd J12 l4 (.lst [.ref a7, .ref a8]) m4 fun J13 s13 f4 =>
          ⟨z2, fun a9 n9 => gen_upd J13 a9 (tp [1, 0]) n9 fun J14 s14 e9 => ⟨z2, fun a10 n10 => gen_upd J14 a10 (tp [0, 1]) n10 fun J15 s15 e10 => ⟨z2, fun l5 m5 => gen_upd J15 l5 (.lst [.ref a9, .ref a10]) m5 fun J16 s16 f5 =>
          ⟨z2, fun V' nV => gen_upd J16 V' (.lst [.ref l4, .ref l5]) nV fun J17 s17 eV => ?_⟩⟩⟩⟩⟩⟩⟩
        have u16 := s17
        have u15 := s16.trans u16
        have u14 := s15.trans u15
        have u13 := s14.trans u14
        have u12 := s13.trans u13
        have u11 := s12.trans u12
        have u10 := s11.trans u11
        have u9 := s10.trans u10
        have u8 := s9.trans u9
        have u7 := s8.trans u8
        have u6 := s7.trans u7
        have u5 := s6.trans u6
        have u4 := s5.trans u5
        have u3 := s4.trans u4
        have u2 := s3.trans u3
        have u1 := s2.trans u2
        have u0 := s1.trans u1
        refine ⟨U, V', _, _, rfl, rfl, u10 _ _ eU, eV, z5, fun W nW => ?_⟩
        have s18 : Same J17 (upd J17 W (.lst ([.ref l1, .ref l2, .ref l3] ++ [.ref l4, .ref l5]))) := same_upd0 nW
        have eW : upd J17 W (.lst ([.ref l1, .ref l2, .ref l3] ++ [.ref l4, .ref l5])) W = some (.lst ([.ref l1, .ref l2, .ref l3] ++ [.ref l4, .ref l5])) := upd_same
        generalize upd J17 W (.lst ([.ref l1, .ref l2, .ref l3] ++ [.ref l4, .ref l5])) = J18 at s18 eW ⊢
        refine eq_sameD (d := .list (lawD.map fun R => PyData.list (TD R))) (.lst (SqL.of ((u0.trans s18) _ _ hL)) ?_) (.lst (SqL.of eW) ?_) lay_law shp_law (q _)
        · exact (rL.imp (D := D) (fun a xs _ e => (u0.trans s18) _ _ e) fun a xs e => (u0.trans s18) _ _ e).dp
        · exact .cons (.lst (SqL.of ((u3.trans s18) _ _ f1)) (dpAll_rt (as := [a1, a2]) (rows := [[1, 1, 1], [0, 1, 0, 0]]) ⟨(u1.trans s18) _ _ e1, (u2.trans s18) _ _ e2, True.intro⟩))
            (.cons (.lst (SqL.of ((u6.trans s18) _ _ f2)) (dpAll_rt (as := [a3, a4]) (rows := [[1, -2, 1], [1, 0, -3, 0]]) ⟨(u4.trans s18) _ _ e3, (u5.trans s18) _ _ e4, True.intro⟩))
            (.cons (.lst (SqL.of ((u9.trans s18) _ _ f3)) (dpAll_rt (as := [a5, a6]) (rows := [[1, 0, 0, -4], [0, 1, 0, 0]]) ⟨(u7.trans s18) _ _ e5, (u8.trans s18) _ _ e6, True.intro⟩))
            (.cons (.lst (SqL.of ((u13.trans s18) _ _ f4)) (dpAll_rt (as := [a7, a8]) (rows := [[1, 0, 0, 0, 1], [0, 0, 1, 0, 0]]) ⟨(u11.trans s18) _ _ e7, (u12.trans s18) _ _ e8, True.intro⟩))
            (.cons (.lst (SqL.of ((u16.trans s18) _ _ f5)) (dpAll_rt (as := [a9, a10]) (rows := [[1, 0], [0, 1]]) ⟨(u14.trans s18) _ _ e9, (u15.trans s18) _ _ e10, True.intro⟩)) .nil))))
end
end K65

set_option Elab.async false
set_option linter.all false
set_option maxRecDepth 100000
set_option maxHeartbeats 0
namespace K65
open PySem PySem.Spec PyProof.Rows L2
theorem facts {l : PySem.W.OpenLaw} {w : World} {K : PySem.W.Frag} {h : Heap} {mg : Str → Option Value} {f : Addr} (X : K.In h) (G : h.Ns mainGlobals mg) (hfa : mg ("law" : Str) = some (.ref f)) (c : HookT.SaysGT faL fnL tfL exL h K) :
    LamX.LawAtS l w K CX0 11 63 "_law_script" mg f h := by
  obtain ⟨T⟩ := facts_of X G c.g
  have e := hfa.symm.trans T.g_law
  cases e
  have b := FunD.bindsA (ps := ["_law_script"]) T.F_law fun _ _ _ _ _ _ us hl => match us, hl with | [_], _ => rfl
  have key : ∀ p ∈ ([(T.c_first_of, T.P_first_of), (T.c_first_index, T.P_first_index), (T.c_second_killer, T.P_second_killer)] : List (Addr × Addr)), ∃ q ∈ tfL, p = HookT.cTA K q := fun p hp => by
    simp only [List.mem_cons, List.not_mem_nil, or_false] at hp
    rcases hp with rfl | rfl | rfl
    · exact ⟨(HookG.At.glo "first_of"), by unfold tfL; simp, T.tab_first_of⟩
    · exact ⟨(HookG.At.glo "first_index"), by unfold tfL; simp, T.tab_first_index⟩
    · exact ⟨(HookG.At.glo "second_killer"), by unfold tfL; simp, T.tab_second_killer⟩
  refine ⟨T.fd_law, [(T.c_first_of, T.P_first_of), (T.c_first_index, T.P_first_index), (T.c_second_killer, T.P_second_killer)], spLawT K [T.P_first_of, T.P_first_index, T.P_second_killer], fun p hp => ?_, fun p hp => ?_, fun p hp => ?_, fun s v => b s [v] rfl, fun H a ns hl _ hH hS => ⟨a, ns, rfl, hS, hl, (fun P hP => by simp only [List.mem_cons, List.not_mem_nil, or_false] at hP; rcases hP with e | e | e <;> first | exact e ▸ HookT.tabG0 (hH (T.c_first_of, T.P_first_of) (by simp)) | exact e ▸ HookT.tabG0 (hH (T.c_first_index, T.P_first_index) (by simp)) | exact e ▸ HookT.tabG0 (hH (T.c_second_killer, T.P_second_killer) (by simp))), fun _ => rfl⟩, fun base _ _ TB => ok_law T (have t := TB (T.c_first_of, T.P_first_of) (by simp); ⟨t.code, t.bm, t.gP⟩) (have t := TB (T.c_first_index, T.P_first_index) (by simp); ⟨t.code, t.bm, t.gP⟩) (have t := TB (T.c_second_killer, T.P_second_killer) (by simp); ⟨t.code, t.bm, t.gP⟩)⟩
  · obtain ⟨q, hq, rfl⟩ := key p hp
    exact c.empty q hq
  · obtain ⟨q, hq, rfl⟩ := key p hp
    exact c.out q hq
  · obtain ⟨q, hq, rfl⟩ := key p hp
    exact PySem.W.codeHd_of_K X (c.hd q hq)
end K65
open PySem PySem.W PySem.Calls PyProof.Rows
theorem PySem.Challenge.cw_sourceforms_k65_whole_two_killers_holds : PySem.Challenge.rw_sourceforms_k65_whole_two_killers.Holds := by
  w_on; o_law
  refine HandSHeadRun.head_imp (r := OpenLaw.row PySem.Challenge.rw_sourceforms_k65_whole_two_killers) (q := view (OpenLaw.row PySem.Challenge.rw_sourceforms_k65_whole_two_killers).prog [0, 95]) (H := K65.hk) (ob := K65.ob) (M := 12000) (loose := K65.loose) (d := HandSHeadRun.topDef (OpenLaw.row PySem.Challenge.rw_sourceforms_k65_whole_two_killers).prog 95) (kwd := []) K65.ob_eq K65.run (by kernel_rfl) (by kernel_rfl) (by kernel_rfl) (by rfl) (by first | assumption | decide +kernel) (by decide +kernel) ⟨rfl, rfl, rfl, rfl, rfl, by decide +kernel⟩ ?hw ?hc
  case hw => w_witness2
  case hc =>
    refine LamX.walk_ofTsE (l := PySem.Challenge.rw_sourceforms_k65_whole_two_killers) (n := 63) (k := 11) (x := "_law_script") (CX := fun _ => L2.CX0) rfl (by decide) (by kernel_rfl) ⟨rfl, by decide, by decide⟩ ?F (fun _ _ _ _ _ z => z)
    intro w mg fa h Y G hmg0
    obtain ⟨K, KX, c⟩ := Y
    have hmg : mg ("law" : PySem.Str) = some (.ref fa) := by
      have e : (HandSHeadRun.topDef (OpenLaw.row PySem.Challenge.rw_sourceforms_k65_whole_two_killers).prog 95).name = ("law" : PySem.Str) := by kernel_rfl
      rw [← e]
      exact hmg0
    exact ⟨K, KX, K65.facts KX G hmg c⟩
