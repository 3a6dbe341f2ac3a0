import PyProof.Rows.All
import Wide.All
import OpenK.AllK
import Wide.FinOn
import KE.KTupSum
import HandS.ForMost
import HandS.Wide
import HandS.Style
import HandS.Gcd
import KE.KMathG
import Flt.RightSqrt
import HandS.SlotsOwn
import HandS.IsInst
import KE.KOpsOwn
import KE.KCallOwn
import KE.KOwnIter
import OpenK.KMeth
import OpenK.KOps
import PyProof.InstNe
import HandS.OwnIter
import HandS.IterNext
import HandS.Defaults
import HandS.HeadHook2
import HandS.HeadNt
import HandS.Codes
import HandS.Words
import HandS.Slots
import HandS.ClsMeth
import PyProof.ListIndex
import HandS.Iter
import KE.GoesMore
import HandS.Conv
import HandS.Star
import HandS.TupAny
import HandS.Zip
import HandS.Evl
import HandS.WordsExc
import HandS.Head0
import HandS.Head1
import HandS.Head2
import HandS.Head3
import HandS.HeadEnd
import HandS.HeadHook1
import HandS.HeadHook3
import HandS.HeadHook4
import HandS.FStr
import KE.KEqSeq
import HandS.TupMul
import PySem.Challenge.RW_sourceforms_k10_whole_layings

set_option Elab.async false
set_option linter.all false
set_option maxRecDepth 100000
set_option maxHeartbeats 4000000
/-! rules of mine: a tuple turned round by a slice, the sum of a tuple -/
namespace MyR
open PySem PySem.Spec PyProof.Rows L2 HT
section
variable {prog : Program} {w : World} {A : Around} {E : Value → Shared → Prop} {s : Shared}
end
section
variable {X : Cx}
/-- // by any int other than 0 -/
def CDivZ (_ j : Int) : Prop := j ≠ 0 ∧ j.natAbs.log2 < 9000
theorem op_fdivZ : OpR X (binaryOp .FloorDiv) (rI CDivZ fun i j => .int (i.fdiv j)) := opI fun i j _ _ _ _ _ hc q =>
  floordiv_int hc.1 q (.inl (PyProof.noPylong_of_log2 hc.2))
end
end MyR

set_option Elab.async false
set_option linter.all false
set_option maxRecDepth 100000
set_option maxHeartbeats 2000000
/-! rules for instances with slots: own +, -, *, unary -, ==, !=, len, str -/
namespace OwnR
open PySem PySem.Spec PyProof.Rows L2 SlX
section
variable {X : Cx} {CX : CXT} {C g : Addr} {n : Nat} {sp : Sp} {E : XK}
/-- x op y, both instances of the class at C -/
def rBin (C : Addr) (sp : Sp) (E : XK) : R2 := fun x y H Q => ∃ a dx vs b dy ws, x = .ref a ∧ y = .ref b ∧ Slt H a C dx vs ∧ Slt H b C dy ws ∧ sp [x, y] H Q E
theorem op_bin {op : Operator} (hc : PySem.W.selfFirst X.K C = true) (hs : PySem.W.findIn X.K (.ref C) (PySem.dunder op.info.2) = some (some (.ref g))) (hf : PySem.W.isFn X.K (.ref g) = true) (F : FnR X.prog X.w X.K X.mg X.base CX n g sp)
    (hr : Room n X.A) (hx : Passes CX X E) : OpR X (binaryOp op) (rBin C sp E) := by
  intro pins s σ H x y v u Q I rx ry h
  obtain ⟨a, dx, vs, b, dy, ws, rfl, rfl, ha, hb, q⟩ := h
  cases (show v = Value.ref a from rx)
  cases (show u = Value.ref b from ry)
  obtain ⟨sl, od, _, J, _⟩ := slt_inst I ha
  obtain ⟨sl', od', _, J', _⟩ := slt_inst I hb
  obtain ⟨m, hF⟩ := I.fr
  refine PySem.W.binop_K hF I.ok.mod.kin J J'.type hc hs hf ?_
  refine wpAny_mono (wpAny_call (run_fnR (us := [.ref a, .ref b]) (vs := [.ref a, .ref b]) F hr hx I (.cons rfl (.cons rfl .nil)) q)) (fun w s' z => ?_) fun _ _ x => x
  obtain ⟨z', H', I', rz, qz⟩ := z
  exact cmpback rz ⟨z', H', I', rz, qz⟩
/-- x op i, x an instance of the class at C, i an int -/
def rBinI (C : Addr) (sp : Sp) (E : XK) : R2 := fun x y H Q => ∃ a dx vs i, x = .ref a ∧ y = .int i ∧ Slt H a C dx vs ∧ sp [x, y] H Q E
theorem op_binI {op : Operator} {fo ro rc : Option Value} (hc : PySem.W.selfFirst X.K C = true) (hs : PySem.W.findIn X.K (.ref C) (PySem.dunder op.info.2) = some (some (.ref g))) (hf : PySem.W.isFn X.K (.ref g) = true)
    (hr1 : PySem.W.findIn X.K (.ref C) (dunderR op.info.2) = some rc) (hp : rc = none ∨ ∃ g' : Addr, rc = some (.ref g'))
    (h1 : PySem.W.findIn X.K (.type "int") (PySem.dunder op.info.2) = some fo) (h2 : PySem.W.findIn X.K (.type "int") (dunderR op.info.2) = some ro) (hsub : PySem.W.subIn X.K (.type "int") (.ref C) = some false)
    (F : FnR X.prog X.w X.K X.mg X.base CX n g sp) (hr : Room n X.A) (hx : Passes CX X E) : OpR X (binaryOp op) (rBinI C sp E) := by
  intro pins s σ H x y v u Q I rx ry h
  obtain ⟨a, dx, vs, i, rfl, rfl, ha, q⟩ := h
  cases (show v = Value.ref a from rx)
  obtain ⟨t, rfl⟩ := (show ∃ t, u = Value.int i t from ry)
  obtain ⟨sl, od, _, J, _⟩ := slt_inst I ha
  obtain ⟨m, hF⟩ := I.fr
  refine PySem.W.ksp_binT (T := "int") hF I.ok.mod.kin J rfl hc hs hf hr1 hp h1 h2 hsub ?_
  refine wpAny_mono (wpAny_call (run_fnR (us := [.ref a, .int i t]) (vs := [.ref a, .int i]) F hr hx I (.cons rfl (.cons ⟨t, rfl⟩ .nil)) q)) (fun w s' z => ?_) fun _ _ x => x
  obtain ⟨z', H', I', rz, qz⟩ := z
  exact cmpback rz ⟨z', H', I', rz, qz⟩
/-- the right operand of a comparison: a value of a plain type, or an instance -/
inductive RT (X : Cx) (H : Hp) : V → Value → Prop where
  | plain {x : V} {T : String} (t : TyB X.K H x T) : RT X H x (.type T)
  | inst {b C' dy : Addr} {ws : List (Option V)} (h : Slt H b C' dy ws) : RT X H (.ref b) (.ref C')
theorem rt_looks {pins : List (Addr × Obj)} {σ : L2.St} {H : Hp} {s : Shared} {y : V} {u tb : Value} (I : Inv X pins σ H s) (ry : RelV y u) (t : RT X H y tb) : PySem.W.Looks (model X.prog X.w) s.heap (typeOf u) tb := by
  cases t with
  | plain t =>
    have e := t.is I ry
    cases u with
    | ref b =>
      obtain ⟨o, h1, h2⟩ := (show ∃ o, s.heap.get? b = some o ∧ o.cls = .type _ from e)
      rw [← h2]
      exact (PySem.W.Looks.ld (part := none) h1).andThen .now
    | _ => exact PySem.W.Looks.of_pure e
  | inst h =>
    cases (show u = Value.ref _ from ry)
    obtain ⟨sl, od, _, J, _⟩ := slt_inst I h
    exact J.type
theorem objNe_entry {prog : Program} {w : World} {A : Around} {E : Value → Shared → Prop} {s : Shared} {K : PySem.W.Frag} {x C f : Addr} {ox : Obj} {od : Option Obj} {b : Value} (hu : A.units < cLine) (X : K.In s.heap) (I : PySem.W.InstAt s.heap x ox C od)
    (hs : PySem.W.findIn K (.ref C) "__eq__" = some (some (.ref f))) (hf : PySem.W.isFn K (.ref f) = true) {Q : Fin → Shared → Prop}
    (hcall : wpAny (model prog w) A (call (.ref f) [.ref x, b]) (fun v s' => ∃ r, v = .bool r ∧ Q (.done (.ret (.bool (!r)))) s') E s) : wpAny (model prog w) A (Builtin.«object.__ne__» ⟨[.ref x, b], []⟩) Q E s := by
  unfold Builtin.«object.__ne__»
  repeat (first
    | with_reducible refine wpAny_cRoomFor hu ?_
    | (refine wpAny_bind (m := callSpecialIfBound? (.ref x) (Str.ofString "__eq__") [b])
        (PySem.W.ifBound_K X I hs hf (wpAny_mono hcall (fun r s' hr => by
          obtain ⟨b, rfl, hq⟩ := hr
          repeat (first | exact hq | exact wpAny_pure hq | exact wpAny_truthy_bool hq | (refine wpAny_bind (m := truthy (.bool _)) (wpAny_truthy_bool ?_)) | wp_step)) fun _ _ e => e)))
    | wp_step)
theorem ifBound_objNe {M : Model} {A : Around} {E : Value → Shared → Prop} {s : Shared} {K : PySem.W.Frag} {x C : Addr} {ox : Obj} {od : Option Obj} {args : List Value} {Q : Option Value → Shared → Prop} (X : K.In s.heap) (I : PySem.W.InstAt s.heap x ox C od) (hs : PySem.W.findIn K (.ref C) "__ne__" = some (some (.builtin "object.__ne__")))
    (h : wpAny M A (call (.builtin "object.__ne__") (.ref x :: args)) (fun v => Q (some v)) E s) : wpAny M A (callSpecialIfBound? (.ref x) "__ne__" args) Q E s := by
  simp only [callSpecialIfBound?, bindSpecialIfBound?]
  refine wpAny_holding (wpAny_bind (wpAny_bind (wpAny_bind (I.type.here ((PySem.W.looks_findIn X hs).here ?_)))))
  refine wpAny_bind (wpAny_askSetting (wpAny_ite ?_))
  have fin : wpAny M A (call (.builtin "object.__ne__") ([.ref x] ++ args) >>= fun v => pure (some v)) Q E s := wpAny_bind (wpAny_mono h (fun v s' h' => wpAny_pure h') fun _ _ h' => h')
  split
  · exact wpAny_bind (wpAny_of_eq (F.cmp_object.ne.bind _) (wpAny_pure (by exact fin)))
  · exact wpAny_tryCatch (wpAny_bind (wpAny_of_eq (F.cmp_object.ne.bind _) (wpAny_pure (by exact fin))))
theorem rc_ne {prog : Program} {w : World} {A : Around} {E : Value → Shared → Prop} {s : Shared} {K : PySem.W.Frag} {x C f : Addr} {ox : Obj} {od : Option Obj} {b tb : Value} {Q : Value → Shared → Prop} (hu : A.units + 1 < cLine) (X : K.In s.heap) (I : PySem.W.InstAt s.heap x ox C od)
    (hb : PySem.W.Looks (model prog w) s.heap (typeOf b) tb) (hn : PySem.W.notFirst K C tb = true) (hm : PySem.W.mroIn K C (.type "object") = some true) (hne : PySem.W.findIn K (.ref C) "__ne__" = some (some (.builtin "object.__ne__")))
    (hs : PySem.W.findIn K (.ref C) "__eq__" = some (some (.ref f))) (hf : PySem.W.isFn K (.ref f) = true)
    (h : wpAny (model prog w) A.in1 (call (.ref f) [.ref x, b]) (fun v s' => ∃ r, v = .bool r ∧ Q (.bool (!r)) s') E s) : wpAny (model prog w) A (richCompare .NotEq (.ref x) b) Q E s := by
  have one : wpAny (model prog w) A (tryCompare (.ref x) "__ne__" b) (fun r s' => ∃ v, r = some v ∧ Q v s') E s := by
    unfold tryCompare
    refine wpAny_bind (ifBound_objNe X I hne (wpAny_call (codeAny_call_builtin F.cmp_object.ne.plain F.cmpEntry_ne (PySem.W.check_slot F.cmpKind_ne F.cmpSplit_ne (I.type.andThen (PySem.W.looks_mroIn X hm)) (F.cmpArgs_ne _ _) (objNe_entry (A := A.in1) hu X I hs hf (wpAny_mono h (fun v s' hv => ?_) fun _ _ e => e))))))
    obtain ⟨r, rfl, hq⟩ := hv
    exact ⟨r, rfl, wpAny_pure ⟨_, rfl, hq⟩⟩
  unfold richCompare
  simp only [oneThing_ref]
  refine wpAny_holding (wpAny_bind (wpAny_cRoomFor (by omega) ?_))
  refine wpAny_bind (I.type.here (wpAny_bind (hb.here ?_)))
  split
  · rename_i q
    have e : PySem.W.subIn K tb (.ref C) = some false := by
      rcases Bool.or_eq_true_iff.mp hn with e | e
      · rw [beq_iff_eq.mp e] at q; simp at q
      · exact beq_iff_eq.mp e
    refine wpAny_bind ((PySem.W.looks_subIn X e).here ?_)
    simp only [Bool.false_eq_true, if_false]
    refine wpAny_bind (m := tryCompare (.ref x) _ b) (wpAny_mono one (fun r s' z => ?_) fun _ _ e => e)
    obtain ⟨v, rfl, hq⟩ := z
    exact wpAny_pure hq
  · refine wpAny_bind (wpAny_pure ?_)
    simp only [Bool.false_eq_true, if_false]
    refine wpAny_bind (m := tryCompare (.ref x) _ b) (wpAny_mono one (fun r s' z => ?_) fun _ _ e => e)
    obtain ⟨v, rfl, hq⟩ := z
    exact wpAny_pure hq
/-- x != y, x an instance of the class at C with its own __eq__ at g and no __ne__ -/
def rNeO (X : Cx) (C : Addr) (sp : Sp) (E : XK) : R2 := fun x y H Q => ∃ a dx vs tb, x = .ref a ∧ Slt H a C dx vs ∧ RT X H y tb ∧ PySem.W.notFirst X.K C tb = true ∧ sp [x, y] H (fun z H' => ∃ r, z = .bl r ∧ Q (.bl (!r)) H') E
theorem op_neO (hm : PySem.W.mroIn X.K C (.type "object") = some true) (hne : PySem.W.findIn X.K (.ref C) "__ne__" = some (some (.builtin "object.__ne__"))) (hs : PySem.W.findIn X.K (.ref C) "__eq__" = some (some (.ref g))) (hf : PySem.W.isFn X.K (.ref g) = true) (F : FnR X.prog X.w X.K X.mg X.base CX n g sp)
    (hr : Room (n + 1) X.A) (hx : Passes CX X E) : OpR X (compareOp .NotEq) (rNeO X C sp E) := by
  intro pins s σ H x y v u Q I rx ry h
  obtain ⟨a, dx, vs, tb, rfl, ha, ht, hn, q⟩ := h
  cases (show v = Value.ref a from rx)
  obtain ⟨sl, od, _, J, _⟩ := slt_inst I ha
  show wpAny _ _ (richCompare .NotEq (.ref a) u) _ _ _
  refine rc_ne (Nat.lt_of_le_of_lt (Nat.le_refl _) (Room.in1 hr).units0) I.kIn J (rt_looks I ry ht) hn hm hne hs hf ?_
  refine wpAny_mono (wpAny_call (run_at (us := [.ref a, u]) (ws := [.ref a, y]) F (Room.in1 hr) I.env0.in1 hx I (.cons rfl (.cons ry .nil)) q)) (fun w s' z => ?_) fun _ _ x => x
  obtain ⟨z', H', I', rz, r, ez, qz⟩ := z
  subst ez
  cases (show w = Value.bool r from rz)
  exact ⟨r, rfl, .bl (!r), H', I', rfl, qz⟩
end
end OwnR

set_option Elab.async false
set_option linter.all false
set_option maxRecDepth 100000
set_option maxHeartbeats 2000000
/-! list(x) of an instance with own __iter__ (an iterator over a tuple) and own __len__; iter of a tuple -/
namespace OwnR
open PySem PySem.Spec PyProof.Rows L2 SlX
/-- at it an iterator over the tuple at t, the next place is i -/
def ItT (t it : Addr) (i : Nat) : HO := .ext fun h => IsTupIter h it t i
section
variable {X : Cx} {CX : CXT} {pins : List (Addr × Obj)} {σ : L2.St} {H : Hp} {s : Shared} {C g gl t it q : Addr} {n i : Nat} {sp spl : Sp} {E : XK}
/-- what stands while the iterator's items are taken -/
structure Tk (K : PySem.W.Frag) (H0 H : Hp) (t it q : Addr) (ys : List V) (i : Nat) : Prop where
  at_ : H it = some (ItT t it i)
  tu : SqT K H t ys
  li : H q = some (.lst (ys.take i))
  st : ∀ b o, b ≠ it → b ≠ q → H0 b = some o → H b = some o
theorem slt_upd {a dx q : Addr} {vs : List (Option V)} {o : HO} (h : Slt H a C dx vs) (n : H q = none) : Slt (upd H q o) a C dx vs := by
  rcases h with ⟨h1, h2⟩ | ⟨h1, h2⟩
  · exact .inl ⟨by rw [upd_ne (ne_of_none h1 n)]; exact h1, h2⟩
  · exact .inr ⟨by rw [upd_ne (ne_of_none h1 n)]; exact h1, by rw [upd_ne (ne_of_none h2 n)]; exact h2⟩
end
end OwnR

set_option Elab.async false
set_option linter.all false
set_option maxRecDepth 100000
set_option maxHeartbeats 2000000
/-! a Hook that tells of defs found anywhere (a global, a class's method, a property's getter), and of classes with slots -/
namespace HookG
open PySem PySem.Spec PyProof.Rows L2 He
/-- the property f of the class at C -/
def prA (K : PySem.W.Frag) (C : Addr) (f : Str) : Addr := match PySem.W.recIn K (ma K C f) "property" with
  | some (.ref g :: _) => g
  | _ => 0
/-- where a def stands: a global; a method; a property's getter; a classmethod -/
inductive At where
  | glo (x : Str)
  | met (C m : Str)
  | prp (C f : Str)
  | cms (C m : Str)
def At.adr (K : PySem.W.Frag) : At → Addr
  | .glo x => ga K x
  | .met C m => ma K (ga K C) m
  | .prp C f => prA K (ga K C) f
  | .cms C m => He5.wf K (ga K C) "classmethod" m
structure GD where
  at_ : At
  name : Str
  qual : Str
  params : Arguments
  body : List Stmt
  scope : Scope
def fnA (K : PySem.W.Frag) (a : Addr) : FnW := match K.lookup a with
  | some ⟨_, _, .func fd, _⟩ => some (fd.name, fd.qualname, fd.params, fd.body, fd.scope, fd.globals, fd.closure, fd.builtins)
  | _ => none
def GD.val (d : GD) : FnW := some (d.name, d.qual, d.params, .stmts d.body, d.scope, mainGlobals, [], builtinsNs)
def GD.ok (K : PySem.W.Frag) (d : GD) : Bool := PySem.W.keepIn K (.ref (d.at_.adr K)) && (match K.lookup (d.at_.adr K) with
  | some ⟨_, _, .func fd, _⟩ => PySem.W.codeIn K fd.code d.qual && (dflB K fd.defaults [] && kwdB K fd.kwdefaults [])
  | _ => false)
theorem GD.funD {K : PySem.W.Frag} {d : GD} (e : fnA K (d.at_.adr K) = d.val) (c : d.ok K = true) : ∃ fd, FunD K d.name d.qual d.params d.body d.scope [] [] (d.at_.adr K) fd := by
  obtain ⟨kp, c2⟩ := ba c
  unfold fnA at e
  cases q : K.lookup (d.at_.adr K) with
  | none => rw [q] at c2; cases c2
  | some o =>
    obtain ⟨oc, od, dt, osl⟩ := o
    rw [q] at c2 e
    cases dt with
    | func fd =>
      obtain ⟨n1, n2, n3, n4, n5, n6, n7, n8, n9, n10, n11, n12, n13, n14, n15⟩ := fd
      have e2 : (some (n1, n2, n3, n4, n5, n6, n7, n15) : FnW) = some (d.name, d.qual, d.params, .stmts d.body, d.scope, mainGlobals, [], builtinsNs) := e
      simp only [Option.some.injEq, Prod.mk.injEq] at e2
      obtain ⟨h1, h2, h3, h4, h5, h6, h7, h8⟩ := e2
      subst h1 h2 h3 h4 h5 h6 h7 h8
      have c3 : (PySem.W.codeIn K n13 d.qual && (dflB K n8 [] && kwdB K n9 [])) = true := c2
      obtain ⟨k1, k2⟩ := ba c3
      obtain ⟨k3, k4⟩ := ba k2
      exact ⟨_, ⟨oc, od, n8, n9, n10, n11, n12, n13, n14, osl, rfl, q, k1, dflB_ok k3, kwdB_ok k4⟩, kp⟩
    | _ => cases c2
/-! ### facts of classes with slots -/
def dO {α : Type} [DecidableEq α] (a b : Option α) : Bool := decide (a = b)
theorem dO_ok {α : Type} [DecidableEq α] {a b : Option α} (h : dO a b = true) : a = b := of_decide_eq_true h
/-- the class at the module's name x: plain, with slots -/
def sclB (K : PySem.W.Frag) (x : Str) : Bool := PySem.W.plainGet K (ga K x) Str.empty && (PySem.W.isClsIn K (ga K x) && (PySem.W.plainOver K (ga K x) && eqO (PySem.W.findIn K (.ref (ga K x)) "__setattr__") (some (some (.builtin "object.__setattr__")))))
theorem sclB_ok {K : PySem.W.Frag} {x : Str} (h : sclB K x = true) : SlX.SCls K (ga K x) := by
  obtain ⟨c1, c⟩ := ba h
  obtain ⟨c2, c⟩ := ba c
  obtain ⟨c3, c4⟩ := ba c
  exact ⟨c1, c2, c3, eqO_ok c4⟩
def slotB (K : PySem.W.Frag) (x f : Str) (i : Nat) : Bool := eqO (PySem.W.findIn K (.ref (ga K x)) f) (some (some (.ref (ma K (ga K x) f)))) && (eqO (PySem.W.specialIn K (.ref (ma K (ga K x) f)) "__get__") (some (some (.builtin "member_descriptor.__get__"))) && (dO (PySem.W.takesIn K (.ref (ma K (ga K x) f))) (some true) && (dO (PySem.W.typeIn K (.ref (ma K (ga K x) f))) (some (.type "member_descriptor")) && dO (PySem.W.slotIn K (ma K (ga K x) f) (ga K x)) (some i))))
theorem slotB_ok {K : PySem.W.Frag} {x f : Str} {i : Nat} (h : slotB K x f i = true) (hi : i < 1000) : SlX.Slot1 K (ga K x) f (ma K (ga K x) f) i := by
  obtain ⟨c1, c⟩ := ba h
  obtain ⟨c2, c⟩ := ba c
  obtain ⟨c3, c⟩ := ba c
  obtain ⟨c4, c5⟩ := ba c
  exact ⟨eqO_ok c1, eqO_ok c2, dO_ok c3, dO_ok c4, dO_ok c5, hi⟩
def sisB (K : PySem.W.Frag) (x : Str) : Bool := eqO (PySem.W.findIn K (.ref (ga K x)) "__class__") (some (some (.builtin "object.__class__"))) && (eqO (PySem.W.specialIn K (.builtin "object.__class__") "__get__") (some (some (.builtin "getset_descriptor.__get__"))) && (dO (PySem.W.takesIn K (.builtin "object.__class__")) (some true) && dO (PySem.W.mroIn K (ga K x) (.type "object")) (some true)))
theorem sisB_ok {K : PySem.W.Frag} {x : Str} (h : sisB K x = true) : SlX.SIsi K (ga K x) := by
  obtain ⟨c1, c⟩ := ba h
  obtain ⟨c2, c⟩ := ba c
  obtain ⟨c3, c4⟩ := ba c
  exact ⟨eqO_ok c1, eqO_ok c2, dO_ok c3, dO_ok c4⟩
/-- a method: found in the class, a function -/
structure Mt (K : PySem.W.Frag) (C : Addr) (m : Str) (g : Addr) : Prop where
  at_ : PySem.W.findIn K (.ref C) m = some (some (.ref g))
  fn : PySem.W.isFn K (.ref g) = true
def mtB (K : PySem.W.Frag) (x m : Str) : Bool := eqO (PySem.W.findIn K (.ref (ga K x)) m) (some (some (.ref (ma K (ga K x) m)))) && PySem.W.isFn K (.ref (ma K (ga K x) m))
theorem mtB_ok {K : PySem.W.Frag} {x m : Str} (h : mtB K x m = true) : Mt K (ga K x) m (ma K (ga K x) m) := by
  obtain ⟨c1, c2⟩ := ba h
  exact ⟨eqO_ok c1, c2⟩
/-- a property, its getter at g -/
structure Pr (K : PySem.W.Frag) (C : Addr) (f : Str) (p g : Addr) : Prop where
  at_ : PySem.W.findIn K (.ref C) f = some (some (.ref p))
  get : PySem.W.specialIn K (.ref p) "__get__" = some (some (.builtin "property.__get__"))
  tk : PySem.W.takesIn K (.ref p) = some true
  rc : ∃ rest, PySem.W.recIn K p "property" = some (.ref g :: rest)
def recB (K : PySem.W.Frag) (p g : Addr) : Bool := match PySem.W.recIn K p "property" with
  | some (.ref a :: _) => decide (a = g)
  | _ => false
def prB (K : PySem.W.Frag) (x f : Str) : Bool := eqO (PySem.W.findIn K (.ref (ga K x)) f) (some (some (.ref (ma K (ga K x) f)))) && (eqO (PySem.W.specialIn K (.ref (ma K (ga K x) f)) "__get__") (some (some (.builtin "property.__get__"))) && (dO (PySem.W.takesIn K (.ref (ma K (ga K x) f))) (some true) && recB K (ma K (ga K x) f) (prA K (ga K x) f)))
theorem prB_ok {K : PySem.W.Frag} {x f : Str} (h : prB K x f = true) : Pr K (ga K x) f (ma K (ga K x) f) (prA K (ga K x) f) := by
  obtain ⟨c1, c⟩ := ba h
  obtain ⟨c2, c⟩ := ba c
  obtain ⟨c3, c4⟩ := ba c
  refine ⟨eqO_ok c1, eqO_ok c2, dO_ok c3, ?_⟩
  unfold recB at c4
  cases q : PySem.W.recIn K (ma K (ga K x) f) "property" with
  | none => rw [q] at c4; cases c4
  | some l =>
    rw [q] at c4
    cases l with
    | nil => cases c4
    | cons a r =>
      cases a with
      | ref b =>
        have e : b = prA K (ga K x) f := of_decide_eq_true c4
        rw [← e]
        exact ⟨r, rfl⟩
      | _ => cases c4
/-! ### the Hook -/
abbrev AlG : Type := Bool × List FnW
def obsG (fa : List Fa) (fn : List GD) (ex : PySem.W.Frag → Bool) (K : PySem.W.Frag) : AlG := ((fa.all fun f => f.ok K) && ((fn.all fun d => d.ok K) && ex K), fn.map fun d => fnA K (d.at_.adr K))
def valG (fn : List GD) : AlG := (true, fn.map GD.val)
def SaysG (fa : List Fa) (fn : List GD) (ex : PySem.W.Frag → Bool) (K : PySem.W.Frag) : Prop := obsG fa fn ex K = valG fn
section
variable {fa : List Fa} {fn : List GD} {ex : PySem.W.Frag → Bool} {K : PySem.W.Frag}
theorem SaysG.all (c : SaysG fa fn ex K) : ((fa.all fun f => f.ok K) && ((fn.all fun d => d.ok K) && ex K)) = true := congrArg (fun z : AlG => z.1) c
theorem SaysG.fact (c : SaysG fa fn ex K) (i : Nat) {f : Fa} (h : fa[i]? = some f := by rfl) : f.ok K = true := List.all_eq_true.mp (ba c.all).1 f (List.mem_of_getElem? h)
theorem SaysG.more (c : SaysG fa fn ex K) : ex K = true := (ba (ba c.all).2).2
theorem SaysG.def_ (c : SaysG fa fn ex K) (i : Nat) {d : GD} (h : fn[i]? = some d := by rfl) : ∃ fd, FunD K d.name d.qual d.params d.body d.scope [] [] (d.at_.adr K) fd := by
  have c2 := (ba (ba c.all).2).1
  have e : fn.map (fun d => fnA K (d.at_.adr K)) = fn.map GD.val := congrArg (fun z : AlG => z.2) c
  have e2 : (fn.map fun d => fnA K (d.at_.adr K))[i]? = (fn.map GD.val)[i]? := by rw [e]
  rw [List.getElem?_map, List.getElem?_map, h] at e2
  exact GD.funD (Option.some.inj e2) (List.all_eq_true.mp c2 d (List.mem_of_getElem? h))
end
end HookG

set_option Elab.async false
set_option linter.all false
set_option maxRecDepth 100000
set_option maxHeartbeats 2000000
/-! HookG's Hook over a lesser fragment: what the globals name, what is named by that, and so on; a function names its code and its defaults only -/
namespace HookG
open PySem PySem.Spec PyProof.Rows L2 He
def refsW (o : Obj) : List Addr := match o.data with
  | .func fd => refV fd.code ++ refV fd.defaults ++ refV fd.kwdefaults
  | _ => refsD o
def nxtW (g : Addr → Option Obj) (as : List Addr) : List Addr := as.flatMap fun a => match g a with
  | some o => refsW o
  | none => []
def levW (g : Addr → Option Obj) : Nat → List Addr → List Addr
  | 0, as => as
  | n + 1, as => as ++ levW g n (nxtW g as)
def asW (g : Addr → Option Obj) (n : Nat) : List Addr := levW g n [mainGlobals] ++ [cStatics]
def obsGW (n : Nat) (fa : List Fa) (fn : List GD) (ex : PySem.W.Frag → Bool) (g : Addr → Option Obj) : AlG := obsG fa fn ex (frG g (asW g n))
def hookW (n : Nat) (fa : List Fa) (fn : List GD) (ex : PySem.W.Frag → Bool) : PySem.W.Hook where
  α := AlG
  obs := fun s => obsGW n fa fn ex s.heap.get?
  val := fun _ => valG fn
  says := fun _ h => ∃ K : PySem.W.Frag, K.In h ∧ SaysG fa fn ex K
  of := fun _ _ e => ⟨_, frG_in, e⟩
  keeps := fun _ _ _ ⟨K, hK, c⟩ k => ⟨K, PySem.W.Frag.In.keeps hK k, c⟩
theorem obsGW_eq {n : Nat} {fa : List Fa} {fn : List GD} {ex : PySem.W.Frag → Bool} {g : Addr → Option Obj} {s : Shared} (h : ∀ a, g a = s.heap.get? a) : obsGW n fa fn ex g = (hookW n fa fn ex).obs s := by
  have e : g = s.heap.get? := funext h
  rw [e] <;> rfl
end HookG

set_option Elab.async false
set_option linter.all false
set_option maxRecDepth 100000
set_option maxHeartbeats 2000000
/-! the rules of OwnR, OwnL, over the facts of HookG -/
namespace OwnF
open PySem PySem.Spec PyProof.Rows L2 He SlX OwnR HookG
/-- what is asked of a class with slots -/
structure OC (K : PySem.W.Frag) (C : Addr) : Prop where
  scl : SCls K C
  sis : SIsi K C
  first : PySem.W.selfFirst K C = true
  ne : PySem.W.findIn K (.ref C) "__ne__" = some (some (.builtin "object.__ne__"))
  ntup : PySem.W.notFirst K C (.type "tuple") = true
  rmul : PySem.W.findIn K (.ref C) "__rmul__" = some none
  imul : PySem.W.findIn K (.type "int") "__mul__" = some (some (.builtin "int.__mul__"))
  irmul : PySem.W.findIn K (.type "int") "__rmul__" = some (some (.builtin "int.__rmul__"))
  isub : PySem.W.subIn K (.type "int") (.ref C) = some false
  kself : PySem.W.kitOne K (.ref C) (.ref C) = some true
  ktup : PySem.W.kitOne K (.type "tuple") (.ref C) = some false
  kint : PySem.W.kitOne K (.type "int") (.ref C) = some false
def ocB (K : PySem.W.Frag) (x : Str) : Bool := sclB K x && (sisB K x && (PySem.W.selfFirst K (ga K x) && (eqO (PySem.W.findIn K (.ref (ga K x)) "__ne__") (some (some (.builtin "object.__ne__"))) && (PySem.W.notFirst K (ga K x) (.type "tuple") && (eqO (PySem.W.findIn K (.ref (ga K x)) "__rmul__") (some none) && (eqO (PySem.W.findIn K (.type "int") "__mul__") (some (some (.builtin "int.__mul__"))) && (eqO (PySem.W.findIn K (.type "int") "__rmul__") (some (some (.builtin "int.__rmul__"))) && (dO (PySem.W.subIn K (.type "int") (.ref (ga K x))) (some false) && (dO (PySem.W.kitOne K (.ref (ga K x)) (.ref (ga K x))) (some true) && (dO (PySem.W.kitOne K (.type "tuple") (.ref (ga K x))) (some false) && dO (PySem.W.kitOne K (.type "int") (.ref (ga K x))) (some false)))))))))))
theorem ocB_ok {K : PySem.W.Frag} {x : Str} (h : ocB K x = true) : OC K (ga K x) := by
  obtain ⟨c1, c⟩ := ba h
  obtain ⟨c2, c⟩ := ba c
  obtain ⟨c3, c⟩ := ba c
  obtain ⟨c4, c⟩ := ba c
  obtain ⟨c5, c⟩ := ba c
  obtain ⟨c6, c⟩ := ba c
  obtain ⟨c7, c⟩ := ba c
  obtain ⟨c8, c⟩ := ba c
  obtain ⟨c9, c⟩ := ba c
  obtain ⟨c10, c⟩ := ba c
  obtain ⟨c11, c12⟩ := ba c
  exact ⟨sclB_ok c1, sisB_ok c2, c3, eqO_ok c4, c5, eqO_ok c6, eqO_ok c7, eqO_ok c8, dO_ok c9, dO_ok c10, dO_ok c11, dO_ok c12⟩
theorem raw0 {P : Program} {w : World} {K : PySem.W.Frag} {mg : Str → Option Value} {base : Heap} {CX : CXT} {k : Nat} {f : Addr} {sp : Sp} {fd : FuncData} {ps : List Str} (F : FnOk P w K mg base CX k f fd ps sp) (hb : Binds K fd ps []) : FnR P w K mg base CX k f sp :=
  (F.raw hb .nil).imp fun vs H Q E h => by rw [List.append_nil]; exact h
section
variable {X : Cx} {C g gl pp : Addr} {n : Nat} {sp spl : Sp} {fd fdl : FuncData} {ps psl : List Str} {f : Str} {e : Expr} {pos : Pos} {ta : TE}
theorem hx0 : ∀ (H : Hp) (s : Shared) (e : Value) (s' : Shared), CX0 X.stack H s E0 e s' → False := fun _ _ _ _ h => h
theorem pe_prp (he : PE X e ta) (c : OC X.K C) (p : Pr X.K C f pp g) (F : FnOk X.prog X.w X.K X.mg X.base CX0 n g fd ps sp) (hb : Binds X.K fd ps []) (hr : Room (n + 1) X.A) (hb2 : attributeBase e f X.env (eval e X.env) = eval e X.env := by rfl) : PE X (.Attribute e f pos) (tPropSl C sp E0 ta) :=
  pe_propSl he c.scl p.at_ p.get p.tk p.rc (raw0 F hb) hr hx0 hb2
theorem op_addO (c : OC X.K C) (m : Mt X.K C "__add__" g) (F : FnOk X.prog X.w X.K X.mg X.base CX0 n g fd ps sp) (hb : Binds X.K fd ps []) (hr : Room n X.A) : OpR X (binaryOp .Add) (rBin C sp E0) :=
  op_bin c.first ((show PySem.dunder (Operator.info .Add).2 = ("__add__" : Str) by decide +kernel) ▸ m.at_) m.fn (raw0 F hb) hr pass0
theorem op_mulO (c : OC X.K C) (m : Mt X.K C "__mul__" g) (F : FnOk X.prog X.w X.K X.mg X.base CX0 n g fd ps sp) (hb : Binds X.K fd ps []) (hr : Room n X.A) : OpR X (binaryOp .Mult) (rBin C sp E0) :=
  op_bin c.first ((show PySem.dunder (Operator.info .Mult).2 = ("__mul__" : Str) by decide +kernel) ▸ m.at_) m.fn (raw0 F hb) hr pass0
theorem op_mulOI (c : OC X.K C) (m : Mt X.K C "__mul__" g) (F : FnOk X.prog X.w X.K X.mg X.base CX0 n g fd ps sp) (hb : Binds X.K fd ps []) (hr : Room n X.A) : OpR X (binaryOp .Mult) (rBinI C sp E0) :=
  op_binI c.first ((show PySem.dunder (Operator.info .Mult).2 = ("__mul__" : Str) by decide +kernel) ▸ m.at_) m.fn ((show dunderR (Operator.info .Mult).2 = ("__rmul__" : Str) by decide +kernel) ▸ c.rmul) (.inl rfl)
    ((show PySem.dunder (Operator.info .Mult).2 = ("__mul__" : Str) by decide +kernel) ▸ c.imul) ((show dunderR (Operator.info .Mult).2 = ("__rmul__" : Str) by decide +kernel) ▸ c.irmul) c.isub (raw0 F hb) hr pass0
theorem op_neF (c : OC X.K C) (m : Mt X.K C "__eq__" g) (F : FnOk X.prog X.w X.K X.mg X.base CX0 n g fd ps sp) (hb : Binds X.K fd ps []) (hr : Room (n + 1) X.A) : OpR X (compareOp .NotEq) (rNeO X C sp E0) := op_neO c.sis.cm c.ne m.at_ m.fn (raw0 F hb) hr pass0
theorem iter_anyT {prog : Program} {w : World} {A : Around} {E : Value → Shared → Prop} {s : Shared} {l : Addr} {items : Array Value} {Q : Value → Shared → Prop} (hl : s.heap.IsTuple l items)
    (h : ∀ s₂ : Shared, s₂ = { s with heap := s.heap.push { cls := .type "tuple_iterator", data := .fields #[.ref l, .int 0 0] } } →
      (s₂.heap.IsTupleIter s.heap.objs.size l 0 ∧ s₂.heap.IsTuple l items) → l ≠ s.heap.objs.size → Q (.ref s.heap.objs.size) s₂) : wpAny (model prog w) A (pyIter (.ref l)) Q E s := by
  have hlt : l < s.heap.objs.size := by obtain ⟨_, e, _⟩ := hl; exact Heap.lt_size e
  exact wpAny_pyIter_tuple hl (h _ rfl ⟨⟨_, Heap.get?_push_size _ rfl, rfl, rfl⟩, hl.push _⟩ (Nat.ne_of_lt hlt))
theorem truth_ints {prog : Program} {w : World} {A : Around} {ns : List Int} {its : List Value} (r : Vals (ns.map V.int) its) :
    TruthOf prog w A (fun i v => its.toArray[i]? = some v) (fun i => ns.getD i 0 != 0) := fun i v s Q E hv hq => by
  have hv' : its[i]? = some v := by simpa using hv
  have hlen := r.length
  rw [List.length_map] at hlen
  have hlt : i < ns.length := by
    have := (List.getElem?_eq_some_iff.mp hv').1
    omega
  obtain ⟨u, hu, t, ru⟩ := r.get (show (ns.map V.int)[i]? = some (.int ns[i]) by rw [List.getElem?_map, List.getElem?_eq_getElem hlt]; rfl)
  rw [hv'] at hu
  cases hu
  subst ru
  have hg : ns.getD i 0 = ns[i] := by rw [List.getD_eq_getElem?_getD, List.getElem?_eq_getElem hlt] <;> rfl
  have hq' : Q (ns.getD i 0 != 0) s := hq
  rw [hg] at hq'
  exact truthy_int hq'
theorem any_rangeI : ∀ ns : List Int, (List.range ns.length).any (fun i => ns.getD i 0 != 0) = ns.any (· != 0)
  | [] => rfl
  | b :: bs => by
    rw [List.length_cons, List.range_succ_eq_map, List.any_cons, List.any_map, List.any_cons, ← any_rangeI bs]
    all_goals rfl
/-- any of a tuple of ints -/
def rAnyTI (K : PySem.W.Frag) : List V → Hp → VK → Prop := fun vs H Q => ∃ (a : Addr) (ns : List Int), vs = [V.ref a] ∧ SqT K H a (ns.map V.int) ∧ Q (.bl (ns.any (· != 0))) H
theorem cr_anyTI (hc : X.calm = true) : CallR X (.builtin "any") (rAnyTI X.K) := by
  intro pins s σ H vs us Q I r h
  obtain ⟨a, ns, rfl, hs, q⟩ := h
  obtain ⟨its, rv, hl, _⟩ := I.tuple hs
  rw [Vals.ref1 r]
  have hlen := rv.length
  rw [List.length_map] at hlen
  refine call_any_walk (iter_anyT (show s.heap.IsTuple a its.toArray from hl) fun s₂ e2 st hne => ?_)
  subst e2
  refine ⟨_, _, _, _, _, _, _, rfl, Walks.tuple (A := X.A.in1) (I.ok.hd hc) _ a hne its.toArray, st, truth_ints rv, fun h' tk hk => ?_⟩
  refine ⟨.bl _, H, I.kept fun b o eo => hk b o (fun hmem => ?_) (Heap.get?_push_of_some _ eo), ?_, q⟩
  · rcases List.mem_cons.mp hmem with e1 | hmem
    · exact absurd (e1 ▸ Heap.lt_size eo) (Nat.lt_irrefl _)
    · cases hmem
  · show Value.bool _ = Value.bool _
    rw [← any_rangeI, List.size_toArray, ← hlen]
/-- isinstance(x, C): x of a plain type, or an instance -/
theorem call_isiF (C : Addr) : CallR X (.builtin "isinstance") (fun xs H Q => rIsi X.K xs H Q ∨ rIsiSl X.K (.ref C) xs H Q) := call_isi.or (call_isiSl (.ref C))
end
end OwnF

set_option Elab.async false
set_option linter.all false
set_option maxRecDepth 100000
set_option maxHeartbeats 2000000
/-! a method of an instance with slots -/
namespace OwnF
open PySem PySem.Spec PyProof.Rows L2 He SlX OwnR HookG
section
variable {X : Cx} {C g : Addr} {n : Nat} {sp : Sp} {fd : FuncData} {ps : List Str} {o e : Expr} {es : List Expr} {x : Str} {pos apos : Pos} {ta : TE} {t : TA}
theorem pe_mSl {pl : Sem Bool} (he : PE X o ta) (c : OC X.K C) (m : Mt X.K C x g) (kp : PySem.W.keepIn X.K (.ref g) = true) (F : FnOk X.prog X.w X.K X.mg X.base CX0 n g fd ps sp) (hb : Binds X.K fd ps []) (hr : Room n X.A) (ha : PA X (e :: es) t)
    (hst : starEach (e :: es) X.env = (false, eval e X.env) :: starEach es X.env := by rfl) (hpl : (backTo pos (starEach es X.env)).any (·.1) = false := by rfl)
    (ht : eval (.Call (.Attribute o x apos) (e :: es) [] pos) X.env = (do
      let ov ← eval o X.env
      standAt apos.atName
      let (f, first) ← holding [ov] (getMethod ov x pl)
      callWith pos f first (backTo pos (starEach (e :: es) X.env)) (backToKw pos (keywordEach [] X.env))) := by rfl) :
    PE X (.Call (.Attribute o x apos) (e :: es) [] pos) (tMethSl C sp E0 ta t) :=
  pe_methSl (pl := pl) he c.scl ⟨m.at_, m.fn, kp⟩ (raw0 F hb) hr pass0 ha hst hpl ht
end
end OwnF

set_option Elab.async false
set_option linter.all false
set_option maxRecDepth 100000
set_option maxHeartbeats 2000000
/-! classmethods, classes in local names, xs[i] op= e -/
namespace OwnC
open PySem PySem.Spec PyProof.Rows L2 He SlX OwnR HookG OwnF
/-- C.m is a classmethod: its record at p, its def at g -/
structure Cm (K : PySem.W.Frag) (C : Addr) (m : Str) (p g : Addr) : Prop where
  rd : ClX.CRead K C (.type "type")
  cm : ClX.CMet K C (.type "type") m p g
def cmB (K : PySem.W.Frag) (x m : Str) : Bool := PySem.W.readsIn K (ga K x) (.type "type") && (He5.wrapB K (ga K x) "classmethod" "classmethod.__get__" m && PySem.W.fnIn K (He5.wf K (ga K x) "classmethod" m))
theorem cread_of {K : PySem.W.Frag} {C : Addr} (h : PySem.W.readsIn K C (.type "type") = true) : ClX.CRead K C (.type "type") := by
  refine ⟨h, ?_⟩
  unfold PySem.W.readsIn at h
  obtain ⟨h, _⟩ := ba h
  obtain ⟨h, _⟩ := ba h
  obtain ⟨h, h3⟩ := ba h
  obtain ⟨_, h2⟩ := ba h
  unfold PySem.W.specialIn
  rw [beq_iff_eq.mp h2, Option.bind_some]
  exact beq_iff_eq.mp h3
theorem cmB_ok {K : PySem.W.Frag} {x m : Str} (h : cmB K x m = true) : Cm K (ga K x) m (ma K (ga K x) m) (He5.wf K (ga K x) "classmethod" m) := by
  obtain ⟨c1, c⟩ := ba h
  obtain ⟨c2, c3⟩ := ba c
  obtain ⟨h1, h2⟩ := He5.wrapB_ok c2
  exact ⟨cread_of c1, h1, h2, c3⟩
section
variable {X : Cx} {C p g f : Addr} {n i : Nat} {sp : Sp} {fd : FuncData} {ps : List Str} {o e : Expr} {es : List Expr} {m x : Str} {pos apos pp : Pos} {ta : TE} {t : TA}
theorem pe_cmF {pl : Sem Bool} (he : PE X o ta) (c : Cm X.K C m p g) (F : FnOk X.prog X.w X.K X.mg X.base CX0 n g fd ps sp) (hb : Binds X.K fd ps []) (hr : Room n X.A) (ha : PA X (e :: es) t)
    (hst : starEach (e :: es) X.env = (false, eval e X.env) :: starEach es X.env := by rfl) (hpl : (backTo pos (starEach es X.env)).any (·.1) = false := by rfl)
    (ht : eval (.Call (.Attribute o m apos) (e :: es) [] pos) X.env = (do
      let ov ← eval o X.env
      standAt apos.atName
      let (f, first) ← holding [ov] (getMethod ov m pl)
      callWith pos f first (backTo pos (starEach (e :: es) X.env)) (backToKw pos (keywordEach [] X.env))) := by rfl) :
    PE X (.Call (.Attribute o m apos) (e :: es) [] pos) (ClX.tCMeth C sp E0 ta t) :=
  ClX.pe_cmeth (pl := pl) he c.rd c.cm (raw0 F hb) hr pass0 ha hst hpl ht
/-- c(e, ..), c a local name that holds the class at C -/
def tMakeV (i : Nat) (C : Addr) (sp : Sp) (t : TA) : TE := fun σ H Q => σ[i]? = some (some (.ref C)) ∧ tMake C sp [] E0 t σ H Q
theorem pe_makeV (M : Mk X.K C f) (F : FnOk X.prog X.w X.K X.mg X.base CX0 n f fd ps sp) (hr : Room (n + 1) X.A) (hb : Binds X.K fd ps []) (hN : X.N[i]? = some x) (hv : Vis X.env.scope x) (ha : PA X (e :: es) t)
    (hd : (x == ("__debug__" : Str)) = false := by decide) (hcd : (x == ("__classdict__" : Str)) = false := by decide)
    (he : starEach (e :: es) X.env = (false, eval e X.env) :: starEach es X.env := by rfl) (hpl : (backTo pos (starEach es X.env)).any (·.1) = false := by rfl) : PE X (.Call (.Name x pp) (e :: es) [] pos) (tMakeV i C sp t) := by
  refine ⟨fun pins s σ H Q I h => ?_⟩
  obtain ⟨hs, h⟩ := h
  refine wpAny_Call_Name_kw (thn ((pe_var (pos := pp) (i := i) hN hv hd hcd).run pins s σ H (fun v H1 => v = .ref C ∧ H1 = H) I ⟨.ref C, hs, rfl, rfl⟩) fun u s1 ⟨v, H1, I1, r1, ev, eH⟩ => ?_)
  subst ev
  rw [eH] at I1
  cases r1
  refine PySem.W.callWith_K (h₀ := X.base) I.ok.mod.kin M.kp (thn (ha.run pos pins s1 σ H _ I1 h) fun us s2 ⟨vs, H2, I2, r, q⟩ => ⟨I2.kIn, ?_⟩) he hpl
  exact run_make M F hr hb .nil pass0 I2 r q
/-- xs[i], read for xs[i] op= e -/
def rGetL (K : PySem.W.Frag) : R2 := fun x y H Q => ∃ a xs j v, x = .ref a ∧ y = .int ((j : Nat) : Int) ∧ SqL K H a xs ∧ xs[j]? = some v ∧ Q v H
theorem get_list : PGet X (rGetL X.K) := by
  intro pins s σ H x y v u Q I rx ry h
  obtain ⟨a, xs, j, z, rfl, rfl, hq, he, q⟩ := h
  cases rx
  obtain ⟨t, rfl⟩ := ry
  obtain ⟨its, r, pl, hz⟩ := I.list hq
  obtain ⟨w, ew, rw'⟩ := r.get he
  have hl := r.length
  have hn := line63
  have hj : j < xs.length := (List.getElem?_eq_some_iff.mp he).1
  exact wpAny_getItem_list pl.isList (by omega) (by omega) (x := w) (by rw [Int.toNat_natCast]; simpa using ew) ⟨z, H, I, rw', q⟩
end
end OwnC

set_option Elab.async false
set_option linter.all false
set_option maxRecDepth 100000
set_option maxHeartbeats 2000000
/-! enumerate(t), t a tuple -/
namespace EnumT
open PySem PySem.Spec PyProof.Rows L2
open AutoSeq1 (wpAny_loadPart')
theorem meets_newT (l : Addr) (items : Array Value) (n : Nat) (dct : Option Addr) (sl : Array (Option Value)) :
    Meets (Builtin.«enumerate.__new__» ⟨[.type "enumerate", .ref l], []⟩) (fun _ R s => s.heap.get? l = some { cls := .type "tuple", dict := dct, data := .seq items n, slots := sl } ∧
      R (.ok (.ret (.ref (s.heap.push { cls := .type "tuple_iterator", data := .fields #[.ref l, .int 0 0] }).objs.size)))
        { s with heap := (s.heap.push { cls := .type "tuple_iterator", data := .fields #[.ref l, .int 0 0] }).push { cls := .type "enumerate", data := .fields #[.none, .bool false, .ref s.heap.objs.size, rawInt 0, .none, .none] } }) :=
  .of_wp fun prog w A R s h => by
    obtain ⟨hp, g, d, tk, os⟩ := s; obtain ⟨hl, h⟩ := h
    have hsub := sub_enumerate
    have hL : Heap.IsTuple (Shared.heap ⟨hp, g, d, tk, os⟩) l items := ⟨_, hl, rfl, n, rfl⟩
    wp_walk using wpAny_loadPart' hl
    refine wpAny_stack_any fun st => wpAny_pure ?_
    split
    · rename_i c _ _ _ _ _
      cases (c == Value.type "enumerate")
      · wp_walk using wpAny_loadPart' hl, wpAny_pyIter_tuple hL
        exact ⟨_, rfl, h⟩
      · wp_walk using wpAny_loadPart' hl, wpAny_pyIter_tuple hL
        exact ⟨_, rfl, h⟩
    · wp_walk using wpAny_loadPart' hl, wpAny_pyIter_tuple hL
      exact ⟨_, rfl, h⟩
section
variable {prog : Program} {w : World} {A : Around} {E : Value → Shared → Prop} {s : Shared}
theorem call_enumT {l : Addr} {items : Array Value} {Q : Value → Shared → Prop} (hL : s.heap.IsTuple l items)
    (h : ∀ h', IsEnum h' (s.heap.objs.size + 1) s.heap.objs.size 0 .none → h'.IsTupleIter s.heap.objs.size l 0 → h'.objs.size = s.heap.objs.size + 2 →
      (∀ b o, s.heap.get? b = some o → h'.get? b = some o) → Q (.ref (s.heap.objs.size + 1)) { s with heap := h' }) :
    wpAny (model prog w) A (call (.type "enumerate") [.ref l]) Q E s := by
  obtain ⟨⟨c, dct, dt, sl⟩, hl, hc, n, hd⟩ := hL
  replace hc : c = .type "tuple" := hc
  replace hd : dt = .seq items n := hd
  subst hc hd
  refine callType_new F.called_enumerate (by decide) (F.typeCall_enumerate_1 _) (F.newCall_enumerate_1 _) (fun obj => F.args_object_init_2 obj _) F.entry_enumerate_new
    (meets_newT l items n dct sl) ⟨hl, ?_⟩
  have hz : (s.heap.push { cls := .type "tuple_iterator", data := .fields #[.ref l, .int 0 0] }).objs.size = s.heap.objs.size + 1 := Heap.size_push ..
  show _ ∧ _
  rw [hz]
  have he : IsEnum ((s.heap.push { cls := .type "tuple_iterator", data := .fields #[.ref l, .int 0 0] }).push
      { cls := .type "enumerate", data := .fields #[.none, .bool false, .ref s.heap.objs.size, rawInt 0, .none, .none] }) (s.heap.objs.size + 1) s.heap.objs.size 0 .none := by
    have := Heap.get?_push_size (s.heap.push { cls := .type "tuple_iterator", data := .fields #[.ref l, .int 0 0] })
      (o := { cls := .type "enumerate", data := .fields #[.none, .bool false, .ref s.heap.objs.size, rawInt 0, .none, .none] }) rfl
    rw [hz] at this; exact this
  refine ⟨⟨_, he, rfl⟩, h _ he ⟨_, Heap.get?_push_of_some _ (Heap.get?_push_size _ rfl), rfl, rfl⟩ (by rw [Heap.size_push, hz]) fun b o x => Heap.get?_push_of_some _ (Heap.get?_push_of_some _ x)⟩
end
/-- the tuple at a, each item in a new pair -/
def IteT (K : PySem.W.Frag) (a : Addr) : It :=
  ⟨fun i H => ∃ (xs : List V) (x : V), SqT K H a xs ∧ xs[i]? = some x, fun i H v H' => ∃ T x, v = .ref T ∧ H T = none ∧ H' = upd H T (.tup [.int (i : Nat), x]) ∧ ∀ xs, SqT K H a xs → xs[i]? = some x, fun i H => ∃ xs : List V, SqT K H a xs ∧ xs.length = i⟩
theorem turn_enumT {P : Program} {w : World} {K : PySem.W.Frag} {elts : List Expr} {kk : Nat} {tpos : Pos} (a e it : Addr) (hait : a ≠ it) (hae : a ≠ e) :
    Turn P w K (.Tuple elts kk tpos) (IteT K a) [e, it] e (fun i h => (∃ old, IsEnum h e it ((i : Nat) : Int) old) ∧ h.IsTupleIter it a i ∧ e ≠ it) where
  mem := by simp
  obj := fun i h st b hb => by
    obtain ⟨⟨old, he⟩, ⟨o, ho, hc, hd⟩, _⟩ := st
    have e' : b = e ∨ b = it := by simpa using hb
    rcases e' with z | z
    · rw [z]; exact ⟨_, he, fun v q => nomatch q⟩
    · rw [z]; exact ⟨o, ho, fun v q => by rw [hd] at q; cases q⟩
  keep := fun i h h' st k => let ⟨⟨old, he⟩, hi, hne⟩ := st; ⟨⟨old, k e (by simp) _ he⟩, hi.at fun o q => k it (by simp) o q, hne⟩
  item := by
    intro X hP hw hK hc i pins s σ H E I hf st hg
    subst hP hw hK
    obtain ⟨⟨old, he⟩, hit, hne⟩ := st
    obtain ⟨xs, x, hq, hx⟩ := hg
    obtain ⟨its, rv, p, hz⟩ := I.tuple hq
    obtain ⟨u, hu, ru⟩ := rv.get hx
    have hel : e < s.heap.objs.size := Heap.lt_size he
    have hil : it < s.heap.objs.size := by obtain ⟨_, q, _⟩ := hit; exact Heap.lt_size q
    have pT : s.heap.IsTuple a its.toArray := p
    have hlt : i < its.toArray.size := by
      have := (List.getElem?_eq_some_iff.mp hu).1
      simpa using this
    refine wpAny_pyNext_enum_itemD (Draws.tuple (A := X.A.in1) (I.ok.hd hc) it a hait its.toArray) he ⟨hit, pT⟩ hlt hne (by simp [Ne.symm hae, hne]) fun x' h' tk hx' ho hit' hT hsz hk => ?_
    have hux : x' = u := by
      have h1 : its[i]? = some x' := by simpa using hx'
      rw [hu] at h1
      exact (Option.some.inj h1).symm
    subst hux
    refine ⟨_, rfl, wpAny_letOwnedTupleGo_enum (s := { s with heap := h', toks := tk + 1 }) ho fun h'' he' sb => ?_⟩
    have hT2 : h''.get? s.heap.objs.size = some { cls := .type "tuple", data := .seq #[.int i tk, x'] } := (sb.2 _ (Nat.ne_of_gt hel)).trans hT
    have new : ObjOk X.prog X.w (upd H s.heap.objs.size (.tup [.int (i : Nat), x])) h'' s.heap.objs.size (.tup [.int (i : Nat), x]) :=
      ⟨by show 2 ≤ sizeLine; decide, [.int i tk, x'], .cons ⟨_, rfl⟩ (.cons ru .nil), ⟨_, hT2, rfl, _, rfl⟩⟩
    have I1 : Inv X pins σ (upd H s.heap.objs.size (.tup [.int (i : Nat), x])) { s with heap := h'', toks := tk + 1 } :=
      I.turnedNew (ch := [e, it]) (fun b ob hb q => (sb.2 b (fun z => hb (by simp [z]))).trans (hk b ob (fun z => hb (by simp [z])) (fun z => hb (by simp [z])) q)) hf (Nat.le_refl _) new
    refine ⟨.ref s.heap.objs.size, _, I1, rfl, ⟨_, x, rfl, I.hok.fresh (Nat.le_refl _), rfl, fun ys hy => ?_⟩, ⟨⟨x', ?_⟩, hit'.1.at fun o q => (sb.2 it (Ne.symm hne)).trans q, hne⟩, fun b hb => ?_⟩
    · rw [show ys = xs from I.tuple_inj hy hq]
      exact hx
    · have e1 : ((i + 1 : Nat) : Int) = (i : Int) + 1 := by omega
      rw [e1]; exact he'
    · have hb' : b < s.heap.objs.size := by
        have e' : b = e ∨ b = it := by simpa using hb
        rcases e' with z | z
        · rw [z]; exact hel
        · rw [z]; exact hil
      rw [upd_ne (Nat.ne_of_lt hb')]
      exact (hf b hb).1
  done := by
    intro X hP hw hK hc i pins s σ H E I hf st hg
    subst hP hw hK
    obtain ⟨⟨old, he⟩, hit, hne⟩ := st
    obtain ⟨xs, hq, hx⟩ := hg
    obtain ⟨its, rv, p, hz⟩ := I.tuple hq
    obtain ⟨f0, f1, f2, f3, f4, f5⟩ := hf it (by simp)
    have hl := rv.length
    have hz2 : i = its.toArray.size := by rw [List.size_toArray]; omega
    subst hz2
    exact wpAny_pyNext_enum_endD (Draws.tuple (A := X.A.in1) (I.ok.hd hc) it a hait its.toArray) he ⟨hit, show s.heap.IsTuple a its.toArray from p⟩ fun h' eb => ⟨rfl, I.turned (t' := s.toks) (fun b o hb q => eb b o hb q) f0 f1 f3 f4 f5⟩
  self := fun A i s Q E st h => let ⟨⟨_, he⟩, _⟩ := st; wpAny_pyIter_enum he h
def iEnumT (K : PySem.W.Frag) (ta : TA) : TI := fun σ H R => ta σ H fun vs H1 => ∃ a xs, vs = [.ref a] ∧ SqT K H1 a xs ∧ R (IteT K a) H1
theorem pi_enumT {X : Cx} {e : Expr} {ta : TA} {p pos tpos : Pos} {elts : List Expr} {kk : Nat} (hg : Gl X "enumerate") (hm : X.mg "enumerate" = none) (ha : PA X [e] ta) (hs : starEach [e] X.env = [(false, eval e X.env)] := by rfl) :
    PI X (.Tuple elts kk tpos) (.Call (.Name "enumerate" p) [e] [] pos) (iEnumT X.K ta) := by
  refine ⟨fun pins s σ H R I h => ?_⟩
  refine Call_ (ld_blt I hg hm boot_enumerate (PyProof.Rows.callWith_type1 (thn (ha.run pos pins s σ H _ I h) fun us s1 ⟨vs, H1, I1, r1, q1⟩ => ?_) hs rfl))
  obtain ⟨a, xs, ex, hq, q⟩ := q1
  subst ex
  cases r1 with
  | cons r rr =>
    cases rr
    cases r
    obtain ⟨its, rv, p', hz⟩ := I1.tuple hq
    have hlt : a < s1.heap.objs.size := by obtain ⟨_, ho, _⟩ := p'; exact Heap.lt_size ho
    refine call_enumT (show s1.heap.IsTuple a its.toArray from p') fun h' he hit hsz hk => wpAny_pyIter_enum he ?_
    have I2 : Inv X pins σ H1 { s1 with heap := h' } := I1.kept (t' := s1.toks) hk
    refine ⟨s1.heap.objs.size + 1, [s1.heap.objs.size + 1, s1.heap.objs.size], _, _, H1, rfl, I2, turn_enumT a (s1.heap.objs.size + 1) s1.heap.objs.size (Nat.ne_of_lt hlt) (Nat.ne_of_lt (Nat.lt_succ_of_lt hlt)), ⟨⟨.none, he⟩, hit, Nat.succ_ne_self _⟩, fun b hb => ?_, q⟩
    have e' : b = s1.heap.objs.size + 1 ∨ b = s1.heap.objs.size := by simpa using hb
    have hle : s1.heap.objs.size ≤ b := by
      rcases e' with z | z
      · rw [z]; exact Nat.le_add_right _ _
      · rw [z]; exact Nat.le_refl _
    exact I1.fpOk hle (I1.hok.fresh hle)
/-- a loop over enumerate of a tuple -/
theorem for_enumT {K : PySem.W.Frag} {a : Addr} {xs : List V} {g : TG} {tb : TS} {D : Ends} {σ : L2.St} {H : Hp} (Pv : Nat → L2.St → Hp → Prop) (h0 : Pv 0 σ H) (hq : ∀ i σ H, Pv i σ H → SqT K H a xs)
    (hs : ∀ (i : Nat) (x : V) (T : Addr) (σ : L2.St) (H : Hp), xs[i]? = some x → Pv i σ H → H T = none → g (.ref T) σ (upd H T (.tup [.int (i : Nat), x])) fun σ2 H2 => tb { D with nx := Pv (i + 1), ct := Pv (i + 1), bk := D.nx } σ2 H2) (hd : ∀ σ H, Pv xs.length σ H → D.nx σ H) :
    ∃ W : Nat → Nat → L2.St → Hp → Prop, (∃ m, W 0 m σ H) ∧ ∀ i m σ H, W i m σ H →
      ((IteT K a).stop i H ∧ D.nx σ H) ∨ ((IteT K a).go i H ∧ ∃ N : L2.St → Hp → Prop, (∀ σ' H', N σ' H' → ∃ m', m' < m ∧ W (i + 1) m' σ' H') ∧ ∀ v H', (IteT K a).yld i H v H' → g v σ H' fun σ2 H2 => tb { D with nx := N, ct := N, bk := D.nx } σ2 H2) := by
  refine ⟨fun i m σ H => m = xs.length - i ∧ i ≤ xs.length ∧ Pv i σ H, ⟨xs.length, rfl, Nat.zero_le _, h0⟩, ?_⟩
  rintro i m σ H ⟨rfl, hi, p⟩
  have qx := hq i σ H p
  by_cases hlt : i < xs.length
  · have hx : xs[i]? = some xs[i] := List.getElem?_eq_getElem hlt
    refine .inr ⟨⟨xs, _, qx, hx⟩, Pv (i + 1), fun σ' H' p' => ⟨xs.length - (i + 1), by omega, rfl, hlt, p'⟩, fun v H' y => ?_⟩
    obtain ⟨T, x', rfl, hT, rfl, f1⟩ := y
    exact hs i x' T σ H (f1 xs qx) p hT
  · have e : i = xs.length := by omega
    subst e
    exact .inl ⟨⟨xs, qx, rfl⟩, hd σ H p⟩
end EnumT

set_option Elab.async false
set_option linter.all false
set_option maxRecDepth 100000
/-! products of forms: the plain law -/
namespace K10
/-- the entry at a place, 0 behind the end -/
def co (l : List Int) (k : Nat) : Int := l.getD k 0
/-- the entries of a product -/
def cv : List Int → (Nat → Int) → Nat → Int
  | [], _, _ => 0
  | x :: xs, g, k => x * g k + (match k with
    | 0 => 0
    | k + 1 => cv xs g k)
theorem cv_zero (x : Int) (xs : List Int) (g : Nat → Int) : cv (x :: xs) g 0 = x * g 0 := by show x * g 0 + 0 = _; omega
theorem cv_succ (x : Int) (xs : List Int) (g : Nat → Int) (k : Nat) : cv (x :: xs) g (k + 1) = x * g (k + 1) + cv xs g k := rfl
theorem cv_congr {g h : Nat → Int} : ∀ (l : List Int) (k : Nat), (∀ i, i ≤ k → g i = h i) → cv l g k = cv l h k
  | [], _, _ => rfl
  | x :: xs, 0, e => by rw [cv_zero, cv_zero, e 0 (Nat.le_refl _)]
  | x :: xs, k + 1, e => by rw [cv_succ, cv_succ, e (k + 1) (Nat.le_refl _), cv_congr xs k fun i hi => e i (by omega)]
theorem cv_ext {g h : Nat → Int} (l : List Int) (e : ∀ i, g i = h i) (k : Nat) : cv l g k = cv l h k := cv_congr l k fun i _ => e i
theorem cv_add (l : List Int) (g h : Nat → Int) : ∀ k, cv l (fun i => g i + h i) k = cv l g k + cv l h k := by
  induction l with
  | nil => intro k; rfl
  | cons x xs ih =>
    intro k
    cases k with
    | zero => rw [cv_zero, cv_zero, cv_zero, Int.mul_add]
    | succ k => rw [cv_succ, cv_succ, cv_succ, ih, Int.mul_add]; omega
theorem cv_mul (l : List Int) (c : Int) (g : Nat → Int) : ∀ k, cv l (fun i => c * g i) k = c * cv l g k := by
  induction l with
  | nil => intro k; show (0 : Int) = c * 0; rw [Int.mul_zero]
  | cons x xs ih =>
    intro k
    cases k with
    | zero => rw [cv_zero, cv_zero]; rw [← Int.mul_assoc, Int.mul_comm x c, Int.mul_assoc]
    | succ k => rw [cv_succ, cv_succ, ih, Int.mul_add, ← Int.mul_assoc, Int.mul_comm x c, Int.mul_assoc]
theorem cv_zeroF (l : List Int) : ∀ k, cv l (fun _ => 0) k = 0 := by
  induction l with
  | nil => intro k; rfl
  | cons x xs ih =>
    intro k
    cases k with
    | zero => rw [cv_zero, Int.mul_zero]
    | succ k => rw [cv_succ, ih, Int.mul_zero]; rfl
/-- what is moved by one place -/
def sh (g : Nat → Int) : Nat → Int
  | 0 => 0
  | k + 1 => g k
theorem cv_sh (l : List Int) (g : Nat → Int) : ∀ k, cv l (sh g) k = sh (cv l g) k := by
  induction l with
  | nil => intro k; cases k <;> rfl
  | cons x xs ih =>
    intro k
    cases k with
    | zero => rw [cv_zero]; show x * 0 = 0; rw [Int.mul_zero]
    | succ k =>
      rw [cv_succ, ih]
      show x * g k + sh (cv xs g) k = cv (x :: xs) g k
      cases k with
      | zero => rw [cv_zero]; show x * g 0 + 0 = x * g 0; omega
      | succ k => rw [cv_succ] <;> rfl
theorem cv_cons (x : Int) (xs : List Int) (g : Nat → Int) (k : Nat) : cv (x :: xs) g k = x * g k + sh (cv xs g) k := by
  cases k with
  | zero => rw [cv_zero]; show x * g 0 = x * g 0 + 0; omega
  | succ k => rw [cv_succ] <;> rfl
theorem co_cons (x : Int) (xs : List Int) (k : Nat) : co (x :: xs) k = (if k = 0 then x else 0) + sh (co xs) k := by
  cases k with
  | zero => show x = x + 0; omega
  | succ k =>
    show co xs k = (if k + 1 = 0 then x else 0) + co xs k
    rw [if_neg (by omega)]
    omega
/-- a constant times -/
theorem cv_one (l : List Int) : ∀ k, cv l (fun i => if i = 0 then 1 else 0) k = co l k := by
  induction l with
  | nil => intro k; rfl
  | cons x xs ih =>
    intro k
    cases k with
    | zero => rw [cv_zero, if_pos rfl, Int.mul_one]; rfl
    | succ k => rw [cv_succ, if_neg (by omega), Int.mul_zero, ih]; show 0 + co xs k = co xs k; omega
theorem cv_delta (l : List Int) (x : Int) (k : Nat) : cv l (fun i => if i = 0 then x else 0) k = x * co l k := by
  rw [← cv_one l k, ← cv_mul]
  refine cv_ext l (fun i => ?_) k
  by_cases h : i = 0
  · rw [if_pos h, if_pos h, Int.mul_one]
  · rw [if_neg h, if_neg h, Int.mul_zero]
theorem cv_comm (l m : List Int) : ∀ k, cv l (co m) k = cv m (co l) k := by
  induction l with
  | nil =>
    intro k
    rw [show cv m (co []) k = cv m (fun _ => 0) k from cv_ext m (fun i => rfl) k, cv_zeroF]
    rfl
  | cons x xs ih =>
    intro k
    rw [cv_cons, cv_ext m (h := fun i => (if i = 0 then x else 0) + sh (co xs) i) (fun i => co_cons x xs i), cv_add, cv_delta, cv_sh]
    congr 1
    cases k with
    | zero => rfl
    | succ k => exact ih k
theorem cv_far {g : Nat → Int} {b : Nat} (hb : 1 ≤ b) (hg : ∀ i, b ≤ i → g i = 0) : ∀ (l : List Int) (k : Nat), l.length + b ≤ k + 1 → cv l g k = 0
  | [], _, _ => rfl
  | x :: xs, 0, h => by rw [List.length_cons] at h; omega
  | x :: xs, k + 1, h => by
    rw [List.length_cons] at h
    rw [cv_succ, hg _ (by omega), Int.mul_zero, cv_far hb hg xs k (by omega)]
    rfl
/-- the first n values -/
def tb (n : Nat) (f : Nat → Int) : List Int := (List.range n).map f
theorem tb_len (n : Nat) (f : Nat → Int) : (tb n f).length = n := by
  unfold tb
  rw [List.length_map, List.length_range]
theorem co_tb {n : Nat} {f : Nat → Int} (k : Nat) : co (tb n f) k = if k < n then f k else 0 := by
  unfold co tb
  rw [List.getD_eq_getElem?_getD, List.getElem?_map]
  by_cases h : k < n
  · rw [List.getElem?_range h, if_pos h]
    rfl
  · rw [List.getElem?_eq_none (by rw [List.length_range]; omega), if_neg h]
    rfl
theorem co_far {l : List Int} {i : Nat} (h : l.length ≤ i) : co l i = 0 := by
  unfold co
  rw [List.getD_eq_getElem?_getD, List.getElem?_eq_none h]
  rfl
theorem co_get {l : List Int} {i : Nat} (h : i < l.length) : co l i = l[i] := by
  unfold co
  rw [List.getD_eq_getElem?_getD, List.getElem?_eq_getElem h]
  rfl
theorem co_inj {l m : List Int} (hl : l.length = m.length) (h : ∀ i, co l i = co m i) : l = m := by
  refine List.ext_getElem hl fun i h1 h2 => ?_
  rw [← co_get h1, ← co_get h2, h]
theorem tb_co (l : List Int) : tb l.length (co l) = l := co_inj (tb_len _ _) fun i => by
  rw [co_tb]
  split
  · rfl
  · exact (co_far (by omega)).symm
/-- the product of two forms -/
def ml (l m : List Int) : List Int := tb (l.length + m.length - 1) (cv l (co m))
theorem ml_len (l m : List Int) : (ml l m).length = l.length + m.length - 1 := tb_len _ _
theorem co_ml {l m : List Int} (hm : m ≠ []) (k : Nat) : co (ml l m) k = cv l (co m) k := by
  unfold ml
  rw [co_tb]
  by_cases h : k < l.length + m.length - 1
  · rw [if_pos h]
  · rw [if_neg h]
    have h1 : 0 < m.length := List.length_pos_iff.mpr hm
    exact (cv_far (b := m.length) (by omega) (fun i hi => co_far hi) l k (by omega)).symm
theorem ml_comm (l m : List Int) : ml l m = ml m l := by
  unfold ml
  rw [Nat.add_comm]
  unfold tb
  exact List.map_congr_left fun k _ => cv_comm l m k
theorem ml_ne {l m : List Int} (hl : l ≠ []) (hm : m ≠ []) : ml l m ≠ [] := by
  intro e
  have h := ml_len l m
  rw [e] at h
  have h1 : 0 < m.length := List.length_pos_iff.mpr hm
  have h2 : 0 < l.length := List.length_pos_iff.mpr hl
  have : 0 = l.length + m.length - 1 := h
  omega
/-- entry by entry -/
def pl (l m : List Int) : List Int := List.zipWith (· + ·) l m
theorem pl_len {l m : List Int} (h : l.length = m.length) : (pl l m).length = l.length := by
  unfold pl
  rw [List.length_zipWith, h, Nat.min_self]
end K10

set_option Elab.async false
set_option linter.all false
set_option maxRecDepth 100000
/-! the contents of forms -/
namespace K10
theorem least (P : Nat → Prop) (n : Nat) (h : P n) : ∃ m, P m ∧ ∀ k, P k → m ≤ k := by
  induction n using Nat.strongRecOn with
  | _ n ih =>
    by_cases c : ∃ k, k < n ∧ P k
    · obtain ⟨k, hk, pk⟩ := c
      exact ih k hk pk
    · exact ⟨n, h, fun k pk => Nat.le_of_not_lt fun z => c ⟨k, z, pk⟩⟩
structure Prm (p : Nat) : Prop where
  gt : 1 < p
  pr : ∀ a b : Nat, p ∣ a * b → p ∣ a ∨ p ∣ b
theorem Prm.int {p : Nat} (h : Prm p) {x y : Int} (d : (p : Int) ∣ x * y) : (p : Int) ∣ x ∨ (p : Int) ∣ y := by
  have e := Int.natAbs_dvd_natAbs.mpr d
  rw [Int.natAbs_mul] at e
  rcases h.pr _ _ e with e | e
  · exact .inl (Int.natAbs_dvd_natAbs.mp e)
  · exact .inr (Int.natAbs_dvd_natAbs.mp e)
/-- the greatest common divisor of all -/
def cont : List Int → Nat
  | [] => 0
  | x :: xs => Nat.gcd x.natAbs (cont xs)
theorem cont_dvd : ∀ (l : List Int) (x : Int), x ∈ l → (cont l : Int) ∣ x
  | y :: ys, x, h => by
    rcases List.mem_cons.mp h with e | e
    · rw [e]
      exact Int.natAbs_dvd_natAbs.mp (by show Nat.gcd _ _ ∣ _; exact Nat.gcd_dvd_left _ _)
    · have := cont_dvd ys x e
      exact Int.dvd_trans (Int.natAbs_dvd_natAbs.mp (by show Nat.gcd _ _ ∣ cont ys; exact Nat.gcd_dvd_right _ _)) this
theorem co_mem {l : List Int} {k : Nat} : co l k = 0 ∨ co l k ∈ l := by
  by_cases h : k < l.length
  · rw [co_get h]
    exact .inr (List.getElem_mem h)
  · exact .inl (co_far (by omega))
theorem co_map (c : Int) (l : List Int) (k : Nat) : co (l.map (c * ·)) k = c * co l k := by
  by_cases h : k < l.length
  · rw [co_get (by rw [List.length_map]; exact h), co_get h, List.getElem_map]
  · rw [co_far (by rw [List.length_map]; omega), co_far (by omega), Int.mul_zero]
end K10

set_option Elab.async false
set_option linter.all false
set_option maxRecDepth 100000
set_option maxHeartbeats 4000000
namespace K10
open PySem PySem.Spec PyProof.Rows L2 SlX OwnR OwnF
theorem hu64 {k : Nat} {A : Around} (hr : Room k A) : A.units + 64 < cLine := hr.units
theorem same_upd0 {H : Hp} {p : Addr} {o : HO} (h : H p = none) : Same H (upd H p o) := fun b x e => by
  rw [upd_ne (ne_of_none e h)]
  exact e
def topS (i : Nat) : Stmt := PySem.Challenge.pw_sourceforms_k10_whole_layings.main.body.getD i (.Pass ⟨0, 0, 0, 0⟩)
abbrev FnM (K : PySem.W.Frag) (x q : Str) (st : Stmt) (f : Addr) (fd : FuncData) : Prop := FunD K x q (defArgs st) (defBody st) (defScope st) [] [] f fd
abbrev FnP (K : PySem.W.Frag) (x : Str) (st : Stmt) (f : Addr) (fd : FuncData) : Prop := FunD K x x (defArgs st) (defBody st) (defScope st) [] [] f fd
abbrev s_is_whole : Stmt := topS 11
abbrev N_is_whole : List Str := ["value"]
theorem sc_is_whole : FnScope N_is_whole ["value"] (defScope s_is_whole) := ⟨rfl, rfl, rfl, by decide +kernel, rfl, by decide +kernel, by decide +kernel⟩
abbrev s_is_short : Stmt := topS 12
abbrev N_is_short : List Str := ["value"]
theorem sc_is_short : FnScope N_is_short ["value"] (defScope s_is_short) := ⟨rfl, rfl, rfl, by decide +kernel, rfl, by decide +kernel, by decide +kernel⟩
abbrev s_is_from : Stmt := topS 13
abbrev N_is_from : List Str := ["value", "least", "most"]
theorem sc_is_from : FnScope N_is_from ["value", "least", "most"] (defScope s_is_from) := ⟨rfl, rfl, rfl, by decide +kernel, rfl, by decide +kernel, by decide +kernel⟩
abbrev s_are_short : Stmt := topS 14
abbrev N_are_short : List Str := ["value", "entry"]
theorem sc_are_short : FnScope N_are_short ["value"] (defScope s_are_short) := ⟨rfl, rfl, rfl, by decide +kernel, rfl, by decide +kernel, by decide +kernel⟩
abbrev s_require_short : Stmt := topS 15
abbrev N_require_short : List Str := ["value"]
theorem sc_require_short : FnScope N_require_short ["value"] (defScope s_require_short) := ⟨rfl, rfl, rfl, by decide +kernel, rfl, by decide +kernel, by decide +kernel⟩
abbrev s_require_from : Stmt := topS 16
abbrev N_require_from : List Str := ["value", "least", "most"]
theorem sc_require_from : FnScope N_require_from ["value", "least", "most"] (defScope s_require_from) := ⟨rfl, rfl, rfl, by decide +kernel, rfl, by decide +kernel, by decide +kernel⟩
abbrev s_lots_of : Stmt := topS 17
abbrev N_lots_of : List Str := ["many", "few", "found", "at"]
theorem sc_lots_of : FnScope N_lots_of ["many", "few"] (defScope s_lots_of) := ⟨rfl, rfl, rfl, by decide +kernel, rfl, by decide +kernel, by decide +kernel⟩
abbrev s_is_change : Stmt := topS 18
abbrev N_is_change : List Str := ["value", "row"]
theorem sc_is_change : FnScope N_is_change ["value"] (defScope s_is_change) := ⟨rfl, rfl, rfl, by decide +kernel, rfl, by decide +kernel, by decide +kernel⟩
abbrev s_require_change : Stmt := topS 19
abbrev N_require_change : List Str := ["value"]
theorem sc_require_change : FnScope N_require_change ["value"] (defScope s_require_change) := ⟨rfl, rfl, rfl, by decide +kernel, rfl, by decide +kernel, by decide +kernel⟩
abbrev s_product_in : Stmt := topS 22
abbrev N_product_in : List Str := ["one", "other"]
theorem sc_product_in : FnScope N_product_in ["one", "other"] (defScope s_product_in) := ⟨rfl, rfl, rfl, by decide +kernel, rfl, by decide +kernel, by decide +kernel⟩
abbrev s_joined_entries : Stmt := topS 23
abbrev N_joined_entries : List Str := ["one", "other", "found", "place", "at"]
theorem sc_joined_entries : FnScope N_joined_entries ["one", "other"] (defScope s_joined_entries) := ⟨rfl, rfl, rfl, by decide +kernel, rfl, by decide +kernel, by decide +kernel⟩
abbrev s_power_in : Stmt := topS 24
abbrev N_power_in : List Str := ["pair", "degree", "found", "turn"]
theorem sc_power_in : FnScope N_power_in ["pair", "degree"] (defScope s_power_in) := ⟨rfl, rfl, rfl, by decide +kernel, rfl, by decide +kernel, by decide +kernel⟩
abbrev s_value_in : Stmt := topS 25
abbrev s_changed_in : Stmt := topS 26
abbrev N_changed_in : List Str := ["entries", "table", "found", "power", "entry", "longer", "first", "second"]
theorem sc_changed_in : FnScope N_changed_in ["entries", "table"] (defScope s_changed_in) := ⟨rfl, rfl, rfl, by decide +kernel, rfl, by decide +kernel, by decide +kernel⟩
abbrev s_is_zero_in : Stmt := topS 28
abbrev N_is_zero_in : List Str := ["entries"]
theorem sc_is_zero_in : FnScope N_is_zero_in ["entries"] (defScope s_is_zero_in) := ⟨rfl, rfl, rfl, by decide +kernel, rfl, by decide +kernel, by decide +kernel⟩
abbrev s_are_entries : Stmt := topS 30
abbrev N_are_entries : List Str := ["value"]
theorem sc_are_entries : FnScope N_are_entries ["value"] (defScope s_are_entries) := ⟨rfl, rfl, rfl, by decide +kernel, rfl, by decide +kernel, by decide +kernel⟩
abbrev s_form_of : Stmt := topS 32
abbrev N_form_of : List Str := ["entries"]
theorem sc_form_of : FnScope N_form_of ["entries"] (defScope s_form_of) := ⟨rfl, rfl, rfl, by decide +kernel, rfl, by decide +kernel, by decide +kernel⟩
abbrev s_require_form : Stmt := topS 33
abbrev N_require_form : List Str := ["value"]
theorem sc_require_form : FnScope N_require_form ["value"] (defScope s_require_form) := ⟨rfl, rfl, rfl, by decide +kernel, rfl, by decide +kernel, by decide +kernel⟩
abbrev s_sum_in : Stmt := topS 34
abbrev N_sum_in : List Str := ["one", "other", "sign", "first", "second"]
theorem sc_sum_in : FnScope N_sum_in ["one", "other", "sign"] (defScope s_sum_in) := ⟨rfl, rfl, rfl, by decide +kernel, rfl, by decide +kernel, by decide +kernel⟩
abbrev s_laying_slope : Stmt := topS 37
abbrev N_laying_slope : List Str := ["entries", "by_y", "at", "entry"]
theorem sc_laying_slope : FnScope N_laying_slope ["entries", "by_y"] (defScope s_laying_slope) := ⟨rfl, rfl, rfl, by decide +kernel, rfl, by decide +kernel, by decide +kernel⟩
abbrev s_laying_slopes : Stmt := topS 38
abbrev N_laying_slopes : List Str := ["entries", "times", "found", "turn", "one"]
theorem sc_laying_slopes : FnScope N_laying_slopes ["entries", "times"] (defScope s_laying_slopes) := ⟨rfl, rfl, rfl, by decide +kernel, rfl, by decide +kernel, by decide +kernel⟩
abbrev s_add_product : Stmt := topS 39
abbrev N_add_product : List Str := ["found", "one", "other", "factor", "at", "first", "place", "second"]
theorem sc_add_product : FnScope N_add_product ["found", "one", "other", "factor"] (defScope s_add_product) := ⟨rfl, rfl, rfl, by decide +kernel, rfl, by decide +kernel, by decide +kernel⟩
abbrev s_laid_in : Stmt := topS 40
abbrev N_laid_in : List Str := ["one", "other", "times", "found", "first", "second", "at"]
theorem sc_laid_in : FnScope N_laid_in ["one", "other", "times"] (defScope s_laid_in) := ⟨rfl, rfl, rfl, by decide +kernel, rfl, by decide +kernel, by decide +kernel⟩
abbrev s_laid : Stmt := topS 41
abbrev N_laid : List Str := ["one", "other", "times"]
theorem sc_laid : FnScope N_laid ["one", "other", "times"] (defScope s_laid) := ⟨rfl, rfl, rfl, by decide +kernel, rfl, by decide +kernel, by decide +kernel⟩
abbrev s_law_dice : Stmt := topS 43
abbrev N_law_dice : List Str := ["_law_script", "_law_spot", "_law_cell", "_law_left"]
theorem sc_law_dice : FnScope N_law_dice ["_law_script", "_law_spot"] (defScope s_law_dice) := ⟨rfl, rfl, rfl, by decide +kernel, rfl, by decide +kernel, by decide +kernel⟩
abbrev s_law_roll : Stmt := topS 44
abbrev N_law_roll : List Str := ["_law_dice_here", "_law_total", "_law_found", "_law_one", "_law_two"]
theorem sc_law_roll : FnScope N_law_roll ["_law_dice_here", "_law_total"] (defScope s_law_roll) := ⟨rfl, rfl, rfl, by decide +kernel, rfl, by decide +kernel, by decide +kernel⟩
abbrev s_law_near : Stmt := topS 45
abbrev N_law_near : List Str := ["_law_dice_here", "_law_most"]
theorem sc_law_near : FnScope N_law_near ["_law_dice_here", "_law_most"] (defScope s_law_near) := ⟨rfl, rfl, rfl, by decide +kernel, rfl, by decide +kernel, by decide +kernel⟩
abbrev s_law_gcd : Stmt := topS 46
abbrev N_law_gcd : List Str := ["_law_one", "_law_other"]
theorem sc_law_gcd : FnScope N_law_gcd ["_law_one", "_law_other"] (defScope s_law_gcd) := ⟨rfl, rfl, rfl, by decide +kernel, rfl, by decide +kernel, by decide +kernel⟩
abbrev s_law_shared : Stmt := topS 47
abbrev N_law_shared : List Str := ["_law_numbers", "_law_found", "_law_number"]
theorem sc_law_shared : FnScope N_law_shared ["_law_numbers"] (defScope s_law_shared) := ⟨rfl, rfl, rfl, by decide +kernel, rfl, by decide +kernel, by decide +kernel⟩
abbrev s_law_raised : Stmt := topS 48
abbrev N_law_raised : List Str := ["_law_number", "_law_times", "_law_found", "_law_turn"]
theorem sc_law_raised : FnScope N_law_raised ["_law_number", "_law_times"] (defScope s_law_raised) := ⟨rfl, rfl, rfl, by decide +kernel, rfl, by decide +kernel, by decide +kernel⟩
abbrev s_law_choose : Stmt := topS 49
abbrev N_law_choose : List Str := ["_law_many", "_law_few", "_law_found", "_law_at"]
theorem sc_law_choose : FnScope N_law_choose ["_law_many", "_law_few"] (defScope s_law_choose) := ⟨rfl, rfl, rfl, by decide +kernel, rfl, by decide +kernel, by decide +kernel⟩
abbrev s_law_plus : Stmt := topS 50
abbrev N_law_plus : List Str := ["_law_one", "_law_other", "_law_first", "_law_second"]
theorem sc_law_plus : FnScope N_law_plus ["_law_one", "_law_other"] (defScope s_law_plus) := ⟨rfl, rfl, rfl, by decide +kernel, rfl, by decide +kernel, by decide +kernel⟩
abbrev s_law_scaled : Stmt := topS 51
abbrev N_law_scaled : List Str := ["_law_form_here", "_law_factor", "_law_entry"]
theorem sc_law_scaled : FnScope N_law_scaled ["_law_form_here", "_law_factor"] (defScope s_law_scaled) := ⟨rfl, rfl, rfl, by decide +kernel, rfl, by decide +kernel, by decide +kernel⟩
abbrev s_law_product : Stmt := topS 52
abbrev N_law_product : List Str := ["_law_one", "_law_other", "_law_found", "_law_place", "_law_at", "_law_first", "_law_second"]
theorem sc_law_product : FnScope N_law_product ["_law_one", "_law_other"] (defScope s_law_product) := ⟨rfl, rfl, rfl, by decide +kernel, rfl, by decide +kernel, by decide +kernel⟩
abbrev s_law_all_product : Stmt := topS 53
abbrev N_law_all_product : List Str := ["_law_forms", "_law_found", "_law_form_here"]
theorem sc_law_all_product : FnScope N_law_all_product ["_law_forms"] (defScope s_law_all_product) := ⟨rfl, rfl, rfl, by decide +kernel, rfl, by decide +kernel, by decide +kernel⟩
abbrev s_law_power : Stmt := topS 54
abbrev N_law_power : List Str := ["_law_pair", "_law_times", "_law_found", "_law_turn"]
theorem sc_law_power : FnScope N_law_power ["_law_pair", "_law_times"] (defScope s_law_power) := ⟨rfl, rfl, rfl, by decide +kernel, rfl, by decide +kernel, by decide +kernel⟩
abbrev s_law_by_x : Stmt := topS 55
abbrev N_law_by_x : List Str := ["_law_form_here", "_law_at", "_law_entry"]
theorem sc_law_by_x : FnScope N_law_by_x ["_law_form_here"] (defScope s_law_by_x) := ⟨rfl, rfl, rfl, by decide +kernel, rfl, by decide +kernel, by decide +kernel⟩
abbrev s_law_by_y : Stmt := topS 56
abbrev N_law_by_y : List Str := ["_law_form_here", "_law_at", "_law_entry"]
theorem sc_law_by_y : FnScope N_law_by_y ["_law_form_here"] (defScope s_law_by_y) := ⟨rfl, rfl, rfl, by decide +kernel, rfl, by decide +kernel, by decide +kernel⟩
abbrev s_law_derived : Stmt := topS 57
abbrev N_law_derived : List Str := ["_law_form_here", "_law_one", "_law_other", "_law_turn"]
theorem sc_law_derived : FnScope N_law_derived ["_law_form_here", "_law_one", "_law_other"] (defScope s_law_derived) := ⟨rfl, rfl, rfl, by decide +kernel, rfl, by decide +kernel, by decide +kernel⟩
abbrev s_law_laid : Stmt := topS 58
abbrev N_law_laid : List Str := ["_law_one", "_law_other", "_law_times", "_law_found", "_law_place", "_law_at", "_law_piece", "_law_number"]
theorem sc_law_laid : FnScope N_law_laid ["_law_one", "_law_other", "_law_times"] (defScope s_law_laid) := ⟨rfl, rfl, rfl, by decide +kernel, rfl, by decide +kernel, by decide +kernel⟩
abbrev s_law_value : Stmt := topS 59
abbrev N_law_value : List Str := ["_law_form_here", "_law_x", "_law_y", "_law_found", "_law_power_here", "_law_entry"]
theorem sc_law_value : FnScope N_law_value ["_law_form_here", "_law_x", "_law_y"] (defScope s_law_value) := ⟨rfl, rfl, rfl, by decide +kernel, rfl, by decide +kernel, by decide +kernel⟩
abbrev s_law_plain : Stmt := topS 60
abbrev N_law_plain : List Str := ["_law_form_here", "_law_part", "_law_first", "_law_entry"]
theorem sc_law_plain : FnScope N_law_plain ["_law_form_here"] (defScope s_law_plain) := ⟨rfl, rfl, rfl, by decide +kernel, rfl, by decide +kernel, by decide +kernel⟩
abbrev s_law_line : Stmt := topS 61
abbrev N_law_line : List Str := ["_law_point_here"]
theorem sc_law_line : FnScope N_law_line ["_law_point_here"] (defScope s_law_line) := ⟨rfl, rfl, rfl, by decide +kernel, rfl, by decide +kernel, by decide +kernel⟩
abbrev s_law_point : Stmt := topS 62
abbrev N_law_point : List Str := ["_law_dice_here", "_law_most", "_law_one", "_law_other"]
theorem sc_law_point : FnScope N_law_point ["_law_dice_here", "_law_most"] (defScope s_law_point) := ⟨rfl, rfl, rfl, by decide +kernel, rfl, by decide +kernel, by decide +kernel⟩
abbrev s_law_small_form : Stmt := topS 63
abbrev N_law_small_form : List Str := ["_law_dice_here", "_law_degree", "_law_most", "_law_place"]
theorem sc_law_small_form : FnScope N_law_small_form ["_law_dice_here", "_law_degree", "_law_most"] (defScope s_law_small_form) := ⟨rfl, rfl, rfl, by decide +kernel, rfl, by decide +kernel, by decide +kernel⟩
abbrev s_law_form : Stmt := topS 64
abbrev N_law_form : List Str := ["_law_dice_here", "_law_degree", "_law_way", "_law_turn", "_law_line_here", "_law_often", "_law_found", "_law_place"]
theorem sc_law_form : FnScope N_law_form ["_law_dice_here", "_law_degree"] (defScope s_law_form) := ⟨rfl, rfl, rfl, by decide +kernel, rfl, by decide +kernel, by decide +kernel⟩
abbrev s_law_table : Stmt := topS 65
abbrev N_law_table : List Str := ["_law_dice_here", "_law_most", "_law_found", "_law_row"]
theorem sc_law_table : FnScope N_law_table ["_law_dice_here", "_law_most"] (defScope s_law_table) := ⟨rfl, rfl, rfl, by decide +kernel, rfl, by decide +kernel, by decide +kernel⟩
abbrev s_law_det : Stmt := topS 66
abbrev N_law_det : List Str := ["_law_table_here"]
theorem sc_law_det : FnScope N_law_det ["_law_table_here"] (defScope s_law_det) := ⟨rfl, rfl, rfl, by decide +kernel, rfl, by decide +kernel, by decide +kernel⟩
abbrev s_law_layings_right : Stmt := topS 67
abbrev N_law_layings_right : List Str := ["_law_dice_here", "_law_one", "_law_other", "_law_first", "_law_second", "_law_more", "_law_table_here", "_law_times", "_law_due", "_law_told", "_law_whole", "_law_factor"]
theorem sc_law_layings_right : FnScope N_law_layings_right ["_law_dice_here", "_law_one", "_law_other"] (defScope s_law_layings_right) := ⟨rfl, rfl, rfl, by decide +kernel, rfl, by decide +kernel, by decide +kernel⟩
abbrev s_law_rule_right : Stmt := topS 68
abbrev N_law_rule_right : List Str := ["_law_one", "_law_other", "_law_third", "_law_first", "_law_second", "_law_last", "_law_left"]
theorem sc_law_rule_right : FnScope N_law_rule_right ["_law_one", "_law_other", "_law_third"] (defScope s_law_rule_right) := ⟨rfl, rfl, rfl, by decide +kernel, rfl, by decide +kernel, by decide +kernel⟩
abbrev s_law_power_right : Stmt := topS 69
abbrev N_law_power_right : List Str := ["_law_dice_here", "_law_one", "_law_degree", "_law_pair", "_law_due", "_law_factor"]
theorem sc_law_power_right : FnScope N_law_power_right ["_law_dice_here", "_law_one"] (defScope s_law_power_right) := ⟨rfl, rfl, rfl, by decide +kernel, rfl, by decide +kernel, by decide +kernel⟩
abbrev s_law_right : Stmt := topS 70
abbrev N_law_right : List Str := ["_law_dice_here", "_law_one", "_law_other", "_law_small", "_law_turn"]
theorem sc_law_right : FnScope N_law_right ["_law_dice_here"] (defScope s_law_right) := ⟨rfl, rfl, rfl, by decide +kernel, rfl, by decide +kernel, by decide +kernel⟩
abbrev s_law : Stmt := topS 71
abbrev N_law : List Str := ["_law_script", "_law_spot", "_law_quad", "_law_cubic", "_law_four", "_law_told"]
theorem sc_law : FnScope N_law ["_law_script"] (defScope s_law) := ⟨rfl, rfl, rfl, by decide +kernel, rfl, by decide +kernel, by decide +kernel⟩
abbrev s_Told_init : Stmt := inClass (topS 29) 1
abbrev N_Told_init : List Str := ["self", "row"]
theorem sc_Told_init : FnScope N_Told_init ["self", "row"] (defScope s_Told_init) := ⟨rfl, rfl, rfl, by decide +kernel, rfl, by decide +kernel, by decide +kernel⟩
abbrev s_Form_init : Stmt := inClass (topS 31) 1
abbrev N_Form_init : List Str := ["self", "entries"]
theorem sc_Form_init : FnScope N_Form_init ["self", "entries"] (defScope s_Form_init) := ⟨rfl, rfl, rfl, by decide +kernel, rfl, by decide +kernel, by decide +kernel⟩
abbrev s_Form_power : Stmt := inClass (topS 31) 3
abbrev N_Form_power : List Str := ["cls", "pair", "degree"]
theorem sc_Form_power : FnScope N_Form_power ["cls", "pair", "degree"] (defScope s_Form_power) := ⟨rfl, rfl, rfl, by decide +kernel, rfl, by decide +kernel, by decide +kernel⟩
abbrev s_Form_entries : Stmt := inClass (topS 31) 4
abbrev N_Form_entries : List Str := ["self"]
theorem sc_Form_entries : FnScope N_Form_entries ["self"] (defScope s_Form_entries) := ⟨rfl, rfl, rfl, by decide +kernel, rfl, by decide +kernel, by decide +kernel⟩
abbrev s_Form_degree : Stmt := inClass (topS 31) 5
abbrev N_Form_degree : List Str := ["self"]
theorem sc_Form_degree : FnScope N_Form_degree ["self"] (defScope s_Form_degree) := ⟨rfl, rfl, rfl, by decide +kernel, rfl, by decide +kernel, by decide +kernel⟩
abbrev s_Form_is_zero : Stmt := inClass (topS 31) 6
abbrev N_Form_is_zero : List Str := ["self"]
theorem sc_Form_is_zero : FnScope N_Form_is_zero ["self"] (defScope s_Form_is_zero) := ⟨rfl, rfl, rfl, by decide +kernel, rfl, by decide +kernel, by decide +kernel⟩
abbrev s_Form_value : Stmt := inClass (topS 31) 9
abbrev s_Form_changed : Stmt := inClass (topS 31) 10
abbrev N_Form_changed : List Str := ["self", "table"]
theorem sc_Form_changed : FnScope N_Form_changed ["self", "table"] (defScope s_Form_changed) := ⟨rfl, rfl, rfl, by decide +kernel, rfl, by decide +kernel, by decide +kernel⟩
abbrev s_Form_add : Stmt := inClass (topS 31) 14
abbrev N_Form_add : List Str := ["self", "other"]
theorem sc_Form_add : FnScope N_Form_add ["self", "other"] (defScope s_Form_add) := ⟨rfl, rfl, rfl, by decide +kernel, rfl, by decide +kernel, by decide +kernel⟩
abbrev s_Form_sub : Stmt := inClass (topS 31) 15
abbrev s_Form_neg : Stmt := inClass (topS 31) 16
abbrev s_Form_mul : Stmt := inClass (topS 31) 17
abbrev N_Form_mul : List Str := ["self", "other", "entry"]
theorem sc_Form_mul : FnScope N_Form_mul ["self", "other"] (defScope s_Form_mul) := ⟨rfl, rfl, rfl, by decide +kernel, rfl, by decide +kernel, by decide +kernel⟩
abbrev s_Form_eq : Stmt := inClass (topS 31) 18
abbrev N_Form_eq : List Str := ["self", "other"]
theorem sc_Form_eq : FnScope N_Form_eq ["self", "other"] (defScope s_Form_eq) := ⟨rfl, rfl, rfl, by decide +kernel, rfl, by decide +kernel, by decide +kernel⟩
abbrev s_Form_len : Stmt := inClass (topS 31) 19
abbrev s_Form_iter : Stmt := inClass (topS 31) 20
abbrev s_Form_str : Stmt := inClass (topS 31) 21
/-- where the defs stand, what the names of the module are -/
structure Facts (K : PySem.W.Frag) (mg : Str → Option Value) where
  f_is_whole : Addr
  fd_is_whole : FuncData
  F_is_whole : FnP K "is_whole" s_is_whole f_is_whole fd_is_whole
  g_is_whole : mg "is_whole" = some (.ref f_is_whole)
  b_is_whole : Binds K fd_is_whole ["value"] []
  f_is_short : Addr
  fd_is_short : FuncData
  F_is_short : FnP K "is_short" s_is_short f_is_short fd_is_short
  g_is_short : mg "is_short" = some (.ref f_is_short)
  b_is_short : Binds K fd_is_short ["value"] []
  f_is_from : Addr
  fd_is_from : FuncData
  F_is_from : FnP K "is_from" s_is_from f_is_from fd_is_from
  g_is_from : mg "is_from" = some (.ref f_is_from)
  b_is_from : Binds K fd_is_from ["value", "least", "most"] []
  f_are_short : Addr
  fd_are_short : FuncData
  F_are_short : FnP K "are_short" s_are_short f_are_short fd_are_short
  g_are_short : mg "are_short" = some (.ref f_are_short)
  b_are_short : Binds K fd_are_short ["value"] []
  f_require_short : Addr
  fd_require_short : FuncData
  F_require_short : FnP K "require_short" s_require_short f_require_short fd_require_short
  g_require_short : mg "require_short" = some (.ref f_require_short)
  b_require_short : Binds K fd_require_short ["value"] []
  f_require_from : Addr
  fd_require_from : FuncData
  F_require_from : FnP K "require_from" s_require_from f_require_from fd_require_from
  g_require_from : mg "require_from" = some (.ref f_require_from)
  b_require_from : Binds K fd_require_from ["value", "least", "most"] []
  f_lots_of : Addr
  fd_lots_of : FuncData
  F_lots_of : FnP K "lots_of" s_lots_of f_lots_of fd_lots_of
  g_lots_of : mg "lots_of" = some (.ref f_lots_of)
  b_lots_of : Binds K fd_lots_of ["many", "few"] []
  f_is_change : Addr
  fd_is_change : FuncData
  F_is_change : FnP K "is_change" s_is_change f_is_change fd_is_change
  g_is_change : mg "is_change" = some (.ref f_is_change)
  b_is_change : Binds K fd_is_change ["value"] []
  f_require_change : Addr
  fd_require_change : FuncData
  F_require_change : FnP K "require_change" s_require_change f_require_change fd_require_change
  g_require_change : mg "require_change" = some (.ref f_require_change)
  b_require_change : Binds K fd_require_change ["value"] []
  f_product_in : Addr
  fd_product_in : FuncData
  F_product_in : FnP K "product_in" s_product_in f_product_in fd_product_in
  g_product_in : mg "product_in" = some (.ref f_product_in)
  b_product_in : Binds K fd_product_in ["one", "other"] []
  f_joined_entries : Addr
  fd_joined_entries : FuncData
  F_joined_entries : FnP K "joined_entries" s_joined_entries f_joined_entries fd_joined_entries
  g_joined_entries : mg "joined_entries" = some (.ref f_joined_entries)
  b_joined_entries : Binds K fd_joined_entries ["one", "other"] []
  f_power_in : Addr
  fd_power_in : FuncData
  F_power_in : FnP K "power_in" s_power_in f_power_in fd_power_in
  g_power_in : mg "power_in" = some (.ref f_power_in)
  b_power_in : Binds K fd_power_in ["pair", "degree"] []
  f_value_in : Addr
  fd_value_in : FuncData
  F_value_in : FnP K "value_in" s_value_in f_value_in fd_value_in
  g_value_in : mg "value_in" = some (.ref f_value_in)
  b_value_in : Binds K fd_value_in ["entries", "x", "y"] []
  f_changed_in : Addr
  fd_changed_in : FuncData
  F_changed_in : FnP K "changed_in" s_changed_in f_changed_in fd_changed_in
  g_changed_in : mg "changed_in" = some (.ref f_changed_in)
  b_changed_in : Binds K fd_changed_in ["entries", "table"] []
  f_is_zero_in : Addr
  fd_is_zero_in : FuncData
  F_is_zero_in : FnP K "is_zero_in" s_is_zero_in f_is_zero_in fd_is_zero_in
  g_is_zero_in : mg "is_zero_in" = some (.ref f_is_zero_in)
  b_is_zero_in : Binds K fd_is_zero_in ["entries"] []
  f_are_entries : Addr
  fd_are_entries : FuncData
  F_are_entries : FnP K "are_entries" s_are_entries f_are_entries fd_are_entries
  g_are_entries : mg "are_entries" = some (.ref f_are_entries)
  b_are_entries : Binds K fd_are_entries ["value"] []
  f_form_of : Addr
  fd_form_of : FuncData
  F_form_of : FnP K "form_of" s_form_of f_form_of fd_form_of
  g_form_of : mg "form_of" = some (.ref f_form_of)
  b_form_of : Binds K fd_form_of ["entries"] []
  f_require_form : Addr
  fd_require_form : FuncData
  F_require_form : FnP K "require_form" s_require_form f_require_form fd_require_form
  g_require_form : mg "require_form" = some (.ref f_require_form)
  b_require_form : Binds K fd_require_form ["value"] []
  f_sum_in : Addr
  fd_sum_in : FuncData
  F_sum_in : FnP K "sum_in" s_sum_in f_sum_in fd_sum_in
  g_sum_in : mg "sum_in" = some (.ref f_sum_in)
  b_sum_in : Binds K fd_sum_in ["one", "other", "sign"] []
  f_laying_slope : Addr
  fd_laying_slope : FuncData
  F_laying_slope : FnP K "laying_slope" s_laying_slope f_laying_slope fd_laying_slope
  g_laying_slope : mg "laying_slope" = some (.ref f_laying_slope)
  b_laying_slope : Binds K fd_laying_slope ["entries", "by_y"] []
  f_laying_slopes : Addr
  fd_laying_slopes : FuncData
  F_laying_slopes : FnP K "laying_slopes" s_laying_slopes f_laying_slopes fd_laying_slopes
  g_laying_slopes : mg "laying_slopes" = some (.ref f_laying_slopes)
  b_laying_slopes : Binds K fd_laying_slopes ["entries", "times"] []
  f_add_product : Addr
  fd_add_product : FuncData
  F_add_product : FnP K "add_product" s_add_product f_add_product fd_add_product
  g_add_product : mg "add_product" = some (.ref f_add_product)
  b_add_product : Binds K fd_add_product ["found", "one", "other", "factor"] []
  f_laid_in : Addr
  fd_laid_in : FuncData
  F_laid_in : FnP K "laid_in" s_laid_in f_laid_in fd_laid_in
  g_laid_in : mg "laid_in" = some (.ref f_laid_in)
  b_laid_in : Binds K fd_laid_in ["one", "other", "times"] []
  f_laid : Addr
  fd_laid : FuncData
  F_laid : FnP K "laid" s_laid f_laid fd_laid
  g_laid : mg "laid" = some (.ref f_laid)
  b_laid : Binds K fd_laid ["one", "other", "times"] []
  f_law_dice : Addr
  fd_law_dice : FuncData
  F_law_dice : FnP K "_law_dice" s_law_dice f_law_dice fd_law_dice
  g_law_dice : mg "_law_dice" = some (.ref f_law_dice)
  b_law_dice : Binds K fd_law_dice ["_law_script", "_law_spot"] []
  f_law_roll : Addr
  fd_law_roll : FuncData
  F_law_roll : FnP K "_law_roll" s_law_roll f_law_roll fd_law_roll
  g_law_roll : mg "_law_roll" = some (.ref f_law_roll)
  b_law_roll : Binds K fd_law_roll ["_law_dice_here", "_law_total"] []
  f_law_near : Addr
  fd_law_near : FuncData
  F_law_near : FnP K "_law_near" s_law_near f_law_near fd_law_near
  g_law_near : mg "_law_near" = some (.ref f_law_near)
  b_law_near : Binds K fd_law_near ["_law_dice_here", "_law_most"] []
  f_law_gcd : Addr
  fd_law_gcd : FuncData
  F_law_gcd : FnP K "_law_gcd" s_law_gcd f_law_gcd fd_law_gcd
  g_law_gcd : mg "_law_gcd" = some (.ref f_law_gcd)
  b_law_gcd : Binds K fd_law_gcd ["_law_one", "_law_other"] []
  f_law_shared : Addr
  fd_law_shared : FuncData
  F_law_shared : FnP K "_law_shared" s_law_shared f_law_shared fd_law_shared
  g_law_shared : mg "_law_shared" = some (.ref f_law_shared)
  b_law_shared : Binds K fd_law_shared ["_law_numbers"] []
  f_law_raised : Addr
  fd_law_raised : FuncData
  F_law_raised : FnP K "_law_raised" s_law_raised f_law_raised fd_law_raised
  g_law_raised : mg "_law_raised" = some (.ref f_law_raised)
  b_law_raised : Binds K fd_law_raised ["_law_number", "_law_times"] []
  f_law_choose : Addr
  fd_law_choose : FuncData
  F_law_choose : FnP K "_law_choose" s_law_choose f_law_choose fd_law_choose
  g_law_choose : mg "_law_choose" = some (.ref f_law_choose)
  b_law_choose : Binds K fd_law_choose ["_law_many", "_law_few"] []
  f_law_plus : Addr
  fd_law_plus : FuncData
  F_law_plus : FnP K "_law_plus" s_law_plus f_law_plus fd_law_plus
  g_law_plus : mg "_law_plus" = some (.ref f_law_plus)
  b_law_plus : Binds K fd_law_plus ["_law_one", "_law_other"] []
  f_law_scaled : Addr
  fd_law_scaled : FuncData
  F_law_scaled : FnP K "_law_scaled" s_law_scaled f_law_scaled fd_law_scaled
  g_law_scaled : mg "_law_scaled" = some (.ref f_law_scaled)
  b_law_scaled : Binds K fd_law_scaled ["_law_form_here", "_law_factor"] []
  f_law_product : Addr
  fd_law_product : FuncData
  F_law_product : FnP K "_law_product" s_law_product f_law_product fd_law_product
  g_law_product : mg "_law_product" = some (.ref f_law_product)
  b_law_product : Binds K fd_law_product ["_law_one", "_law_other"] []
  f_law_all_product : Addr
  fd_law_all_product : FuncData
  F_law_all_product : FnP K "_law_all_product" s_law_all_product f_law_all_product fd_law_all_product
  g_law_all_product : mg "_law_all_product" = some (.ref f_law_all_product)
  b_law_all_product : Binds K fd_law_all_product ["_law_forms"] []
  f_law_power : Addr
  fd_law_power : FuncData
  F_law_power : FnP K "_law_power" s_law_power f_law_power fd_law_power
  g_law_power : mg "_law_power" = some (.ref f_law_power)
  b_law_power : Binds K fd_law_power ["_law_pair", "_law_times"] []
  f_law_by_x : Addr
  fd_law_by_x : FuncData
  F_law_by_x : FnP K "_law_by_x" s_law_by_x f_law_by_x fd_law_by_x
  g_law_by_x : mg "_law_by_x" = some (.ref f_law_by_x)
  b_law_by_x : Binds K fd_law_by_x ["_law_form_here"] []
  f_law_by_y : Addr
  fd_law_by_y : FuncData
  F_law_by_y : FnP K "_law_by_y" s_law_by_y f_law_by_y fd_law_by_y
  g_law_by_y : mg "_law_by_y" = some (.ref f_law_by_y)
  b_law_by_y : Binds K fd_law_by_y ["_law_form_here"] []
  f_law_derived : Addr
  fd_law_derived : FuncData
  F_law_derived : FnP K "_law_derived" s_law_derived f_law_derived fd_law_derived
  g_law_derived : mg "_law_derived" = some (.ref f_law_derived)
  b_law_derived : Binds K fd_law_derived ["_law_form_here", "_law_one", "_law_other"] []
  f_law_laid : Addr
  fd_law_laid : FuncData
  F_law_laid : FnP K "_law_laid" s_law_laid f_law_laid fd_law_laid
  g_law_laid : mg "_law_laid" = some (.ref f_law_laid)
  b_law_laid : Binds K fd_law_laid ["_law_one", "_law_other", "_law_times"] []
  f_law_value : Addr
  fd_law_value : FuncData
  F_law_value : FnP K "_law_value" s_law_value f_law_value fd_law_value
  g_law_value : mg "_law_value" = some (.ref f_law_value)
  b_law_value : Binds K fd_law_value ["_law_form_here", "_law_x", "_law_y"] []
  f_law_plain : Addr
  fd_law_plain : FuncData
  F_law_plain : FnP K "_law_plain" s_law_plain f_law_plain fd_law_plain
  g_law_plain : mg "_law_plain" = some (.ref f_law_plain)
  b_law_plain : Binds K fd_law_plain ["_law_form_here"] []
  f_law_line : Addr
  fd_law_line : FuncData
  F_law_line : FnP K "_law_line" s_law_line f_law_line fd_law_line
  g_law_line : mg "_law_line" = some (.ref f_law_line)
  b_law_line : Binds K fd_law_line ["_law_point_here"] []
  f_law_point : Addr
  fd_law_point : FuncData
  F_law_point : FnP K "_law_point" s_law_point f_law_point fd_law_point
  g_law_point : mg "_law_point" = some (.ref f_law_point)
  b_law_point : Binds K fd_law_point ["_law_dice_here", "_law_most"] []
  f_law_small_form : Addr
  fd_law_small_form : FuncData
  F_law_small_form : FnP K "_law_small_form" s_law_small_form f_law_small_form fd_law_small_form
  g_law_small_form : mg "_law_small_form" = some (.ref f_law_small_form)
  b_law_small_form : Binds K fd_law_small_form ["_law_dice_here", "_law_degree", "_law_most"] []
  f_law_form : Addr
  fd_law_form : FuncData
  F_law_form : FnP K "_law_form" s_law_form f_law_form fd_law_form
  g_law_form : mg "_law_form" = some (.ref f_law_form)
  b_law_form : Binds K fd_law_form ["_law_dice_here", "_law_degree"] []
  f_law_table : Addr
  fd_law_table : FuncData
  F_law_table : FnP K "_law_table" s_law_table f_law_table fd_law_table
  g_law_table : mg "_law_table" = some (.ref f_law_table)
  b_law_table : Binds K fd_law_table ["_law_dice_here", "_law_most"] []
  f_law_det : Addr
  fd_law_det : FuncData
  F_law_det : FnP K "_law_det" s_law_det f_law_det fd_law_det
  g_law_det : mg "_law_det" = some (.ref f_law_det)
  b_law_det : Binds K fd_law_det ["_law_table_here"] []
  f_law_layings_right : Addr
  fd_law_layings_right : FuncData
  F_law_layings_right : FnP K "_law_layings_right" s_law_layings_right f_law_layings_right fd_law_layings_right
  g_law_layings_right : mg "_law_layings_right" = some (.ref f_law_layings_right)
  b_law_layings_right : Binds K fd_law_layings_right ["_law_dice_here", "_law_one", "_law_other"] []
  f_law_rule_right : Addr
  fd_law_rule_right : FuncData
  F_law_rule_right : FnP K "_law_rule_right" s_law_rule_right f_law_rule_right fd_law_rule_right
  g_law_rule_right : mg "_law_rule_right" = some (.ref f_law_rule_right)
  b_law_rule_right : Binds K fd_law_rule_right ["_law_one", "_law_other", "_law_third"] []
  f_law_power_right : Addr
  fd_law_power_right : FuncData
  F_law_power_right : FnP K "_law_power_right" s_law_power_right f_law_power_right fd_law_power_right
  g_law_power_right : mg "_law_power_right" = some (.ref f_law_power_right)
  b_law_power_right : Binds K fd_law_power_right ["_law_dice_here", "_law_one"] []
  f_law_right : Addr
  fd_law_right : FuncData
  F_law_right : FnP K "_law_right" s_law_right f_law_right fd_law_right
  g_law_right : mg "_law_right" = some (.ref f_law_right)
  b_law_right : Binds K fd_law_right ["_law_dice_here"] []
  f_law : Addr
  fd_law : FuncData
  F_law : FnP K "law" s_law f_law fd_law
  g_law : mg "law" = some (.ref f_law)
  b_law : Binds K fd_law ["_law_script"] []
  f_Told_init : Addr
  fd_Told_init : FuncData
  F_Told_init : FnM K "__init__" "Told.__init__" s_Told_init f_Told_init fd_Told_init
  b_Told_init : Binds K fd_Told_init ["self", "row"] []
  f_Form_init : Addr
  fd_Form_init : FuncData
  F_Form_init : FnM K "__init__" "Form.__init__" s_Form_init f_Form_init fd_Form_init
  b_Form_init : Binds K fd_Form_init ["self", "entries"] []
  f_Form_power : Addr
  fd_Form_power : FuncData
  F_Form_power : FnM K "power" "Form.power" s_Form_power f_Form_power fd_Form_power
  b_Form_power : Binds K fd_Form_power ["cls", "pair", "degree"] []
  f_Form_entries : Addr
  fd_Form_entries : FuncData
  F_Form_entries : FnM K "entries" "Form.entries" s_Form_entries f_Form_entries fd_Form_entries
  b_Form_entries : Binds K fd_Form_entries ["self"] []
  f_Form_degree : Addr
  fd_Form_degree : FuncData
  F_Form_degree : FnM K "degree" "Form.degree" s_Form_degree f_Form_degree fd_Form_degree
  b_Form_degree : Binds K fd_Form_degree ["self"] []
  f_Form_is_zero : Addr
  fd_Form_is_zero : FuncData
  F_Form_is_zero : FnM K "is_zero" "Form.is_zero" s_Form_is_zero f_Form_is_zero fd_Form_is_zero
  b_Form_is_zero : Binds K fd_Form_is_zero ["self"] []
  f_Form_value : Addr
  fd_Form_value : FuncData
  F_Form_value : FnM K "value" "Form.value" s_Form_value f_Form_value fd_Form_value
  b_Form_value : Binds K fd_Form_value ["self", "x", "y"] []
  f_Form_changed : Addr
  fd_Form_changed : FuncData
  F_Form_changed : FnM K "changed" "Form.changed" s_Form_changed f_Form_changed fd_Form_changed
  b_Form_changed : Binds K fd_Form_changed ["self", "table"] []
  f_Form_add : Addr
  fd_Form_add : FuncData
  F_Form_add : FnM K "__add__" "Form.__add__" s_Form_add f_Form_add fd_Form_add
  b_Form_add : Binds K fd_Form_add ["self", "other"] []
  f_Form_sub : Addr
  fd_Form_sub : FuncData
  F_Form_sub : FnM K "__sub__" "Form.__sub__" s_Form_sub f_Form_sub fd_Form_sub
  b_Form_sub : Binds K fd_Form_sub ["self", "other"] []
  f_Form_neg : Addr
  fd_Form_neg : FuncData
  F_Form_neg : FnM K "__neg__" "Form.__neg__" s_Form_neg f_Form_neg fd_Form_neg
  b_Form_neg : Binds K fd_Form_neg ["self"] []
  f_Form_mul : Addr
  fd_Form_mul : FuncData
  F_Form_mul : FnM K "__mul__" "Form.__mul__" s_Form_mul f_Form_mul fd_Form_mul
  b_Form_mul : Binds K fd_Form_mul ["self", "other"] []
  f_Form_eq : Addr
  fd_Form_eq : FuncData
  F_Form_eq : FnM K "__eq__" "Form.__eq__" s_Form_eq f_Form_eq fd_Form_eq
  b_Form_eq : Binds K fd_Form_eq ["self", "other"] []
  f_Form_len : Addr
  fd_Form_len : FuncData
  F_Form_len : FnM K "__len__" "Form.__len__" s_Form_len f_Form_len fd_Form_len
  b_Form_len : Binds K fd_Form_len ["self"] []
  f_Form_iter : Addr
  fd_Form_iter : FuncData
  F_Form_iter : FnM K "__iter__" "Form.__iter__" s_Form_iter f_Form_iter fd_Form_iter
  b_Form_iter : Binds K fd_Form_iter ["self"] []
  f_Form_str : Addr
  fd_Form_str : FuncData
  F_Form_str : FnM K "__str__" "Form.__str__" s_Form_str f_Form_str fd_Form_str
  b_Form_str : Binds K fd_Form_str ["self"] []
  C_Told : Addr
  g_Told : mg "Told" = some (.ref C_Told)
  oc_Told : OwnF.OC K C_Told
  mk_Told : Mk K C_Told f_Told_init
  a_own_row : Addr
  sl_own_row : SlX.Slot1 K C_Told "own_row" a_own_row 0
  C_Form : Addr
  g_Form : mg "Form" = some (.ref C_Form)
  oc_Form : OwnF.OC K C_Form
  mk_Form : Mk K C_Form f_Form_init
  a_own_entries : Addr
  sl_own_entries : SlX.Slot1 K C_Form "own_entries" a_own_entries 0
  mt_Told_init : HookG.Mt K C_Told "__init__" f_Told_init
  mt_Form_init : HookG.Mt K C_Form "__init__" f_Form_init
  p_Form_power : Addr
  cm_Form_power : OwnC.Cm K C_Form "power" p_Form_power f_Form_power
  p_Form_entries : Addr
  pr_Form_entries : HookG.Pr K C_Form "entries" p_Form_entries f_Form_entries
  p_Form_degree : Addr
  pr_Form_degree : HookG.Pr K C_Form "degree" p_Form_degree f_Form_degree
  p_Form_is_zero : Addr
  pr_Form_is_zero : HookG.Pr K C_Form "is_zero" p_Form_is_zero f_Form_is_zero
  mt_Form_value : HookG.Mt K C_Form "value" f_Form_value
  mt_Form_changed : HookG.Mt K C_Form "changed" f_Form_changed
  mt_Form_add : HookG.Mt K C_Form "__add__" f_Form_add
  mt_Form_sub : HookG.Mt K C_Form "__sub__" f_Form_sub
  mt_Form_neg : HookG.Mt K C_Form "__neg__" f_Form_neg
  mt_Form_mul : HookG.Mt K C_Form "__mul__" f_Form_mul
  mt_Form_eq : HookG.Mt K C_Form "__eq__" f_Form_eq
  mt_Form_len : HookG.Mt K C_Form "__len__" f_Form_len
  mt_Form_iter : HookG.Mt K C_Form "__iter__" f_Form_iter
  mt_Form_str : HookG.Mt K C_Form "__str__" f_Form_str
  kit_Told_Form : PySem.W.kitOne K (.ref C_Told) (.ref C_Form) = some false
  kit_Form_Told : PySem.W.kitOne K (.ref C_Form) (.ref C_Told) = some false
  z_abs : mg "abs" = none
  z_all : mg "all" = none
  z_any : mg "any" = none
  z_bool : mg "bool" = none
  z_enumerate : mg "enumerate" = none
  z_int : mg "int" = none
  z_isinstance : mg "isinstance" = none
  z_iter : mg "iter" = none
  z_len : mg "len" = none
  z_list : mg "list" = none
  z_max : mg "max" = none
  z_min : mg "min" = none
  z_range : mg "range" = none
  z_str : mg "str" = none
  z_tuple : mg "tuple" = none
  z_zip : mg "zip" = none
  c_GREATEST : ∃ t, mg "GREATEST" = some (.int 1000000000000000000000000000000000000000000000000000000000000 t)
  c_MAX_DEGREE : ∃ t, mg "MAX_DEGREE" = some (.int 40 t)
  c_MOST_LAID : ∃ t, mg "MOST_LAID" = some (.int 40 t)
/-! ### for the head -/
def d_is_whole : HookG.GD := ⟨.glo "is_whole", "is_whole", "is_whole", defArgs s_is_whole, defBody s_is_whole, defScope s_is_whole⟩
def d_is_short : HookG.GD := ⟨.glo "is_short", "is_short", "is_short", defArgs s_is_short, defBody s_is_short, defScope s_is_short⟩
def d_is_from : HookG.GD := ⟨.glo "is_from", "is_from", "is_from", defArgs s_is_from, defBody s_is_from, defScope s_is_from⟩
def d_are_short : HookG.GD := ⟨.glo "are_short", "are_short", "are_short", defArgs s_are_short, defBody s_are_short, defScope s_are_short⟩
def d_require_short : HookG.GD := ⟨.glo "require_short", "require_short", "require_short", defArgs s_require_short, defBody s_require_short, defScope s_require_short⟩
def d_require_from : HookG.GD := ⟨.glo "require_from", "require_from", "require_from", defArgs s_require_from, defBody s_require_from, defScope s_require_from⟩
def d_lots_of : HookG.GD := ⟨.glo "lots_of", "lots_of", "lots_of", defArgs s_lots_of, defBody s_lots_of, defScope s_lots_of⟩
def d_is_change : HookG.GD := ⟨.glo "is_change", "is_change", "is_change", defArgs s_is_change, defBody s_is_change, defScope s_is_change⟩
def d_require_change : HookG.GD := ⟨.glo "require_change", "require_change", "require_change", defArgs s_require_change, defBody s_require_change, defScope s_require_change⟩
def d_product_in : HookG.GD := ⟨.glo "product_in", "product_in", "product_in", defArgs s_product_in, defBody s_product_in, defScope s_product_in⟩
def d_joined_entries : HookG.GD := ⟨.glo "joined_entries", "joined_entries", "joined_entries", defArgs s_joined_entries, defBody s_joined_entries, defScope s_joined_entries⟩
def d_power_in : HookG.GD := ⟨.glo "power_in", "power_in", "power_in", defArgs s_power_in, defBody s_power_in, defScope s_power_in⟩
def d_value_in : HookG.GD := ⟨.glo "value_in", "value_in", "value_in", defArgs s_value_in, defBody s_value_in, defScope s_value_in⟩
def d_changed_in : HookG.GD := ⟨.glo "changed_in", "changed_in", "changed_in", defArgs s_changed_in, defBody s_changed_in, defScope s_changed_in⟩
def d_is_zero_in : HookG.GD := ⟨.glo "is_zero_in", "is_zero_in", "is_zero_in", defArgs s_is_zero_in, defBody s_is_zero_in, defScope s_is_zero_in⟩
def d_are_entries : HookG.GD := ⟨.glo "are_entries", "are_entries", "are_entries", defArgs s_are_entries, defBody s_are_entries, defScope s_are_entries⟩
def d_form_of : HookG.GD := ⟨.glo "form_of", "form_of", "form_of", defArgs s_form_of, defBody s_form_of, defScope s_form_of⟩
def d_require_form : HookG.GD := ⟨.glo "require_form", "require_form", "require_form", defArgs s_require_form, defBody s_require_form, defScope s_require_form⟩
def d_sum_in : HookG.GD := ⟨.glo "sum_in", "sum_in", "sum_in", defArgs s_sum_in, defBody s_sum_in, defScope s_sum_in⟩
def d_laying_slope : HookG.GD := ⟨.glo "laying_slope", "laying_slope", "laying_slope", defArgs s_laying_slope, defBody s_laying_slope, defScope s_laying_slope⟩
def d_laying_slopes : HookG.GD := ⟨.glo "laying_slopes", "laying_slopes", "laying_slopes", defArgs s_laying_slopes, defBody s_laying_slopes, defScope s_laying_slopes⟩
def d_add_product : HookG.GD := ⟨.glo "add_product", "add_product", "add_product", defArgs s_add_product, defBody s_add_product, defScope s_add_product⟩
def d_laid_in : HookG.GD := ⟨.glo "laid_in", "laid_in", "laid_in", defArgs s_laid_in, defBody s_laid_in, defScope s_laid_in⟩
def d_laid : HookG.GD := ⟨.glo "laid", "laid", "laid", defArgs s_laid, defBody s_laid, defScope s_laid⟩
def d_law_dice : HookG.GD := ⟨.glo "_law_dice", "_law_dice", "_law_dice", defArgs s_law_dice, defBody s_law_dice, defScope s_law_dice⟩
def d_law_roll : HookG.GD := ⟨.glo "_law_roll", "_law_roll", "_law_roll", defArgs s_law_roll, defBody s_law_roll, defScope s_law_roll⟩
def d_law_near : HookG.GD := ⟨.glo "_law_near", "_law_near", "_law_near", defArgs s_law_near, defBody s_law_near, defScope s_law_near⟩
def d_law_gcd : HookG.GD := ⟨.glo "_law_gcd", "_law_gcd", "_law_gcd", defArgs s_law_gcd, defBody s_law_gcd, defScope s_law_gcd⟩
def d_law_shared : HookG.GD := ⟨.glo "_law_shared", "_law_shared", "_law_shared", defArgs s_law_shared, defBody s_law_shared, defScope s_law_shared⟩
def d_law_raised : HookG.GD := ⟨.glo "_law_raised", "_law_raised", "_law_raised", defArgs s_law_raised, defBody s_law_raised, defScope s_law_raised⟩
def d_law_choose : HookG.GD := ⟨.glo "_law_choose", "_law_choose", "_law_choose", defArgs s_law_choose, defBody s_law_choose, defScope s_law_choose⟩
def d_law_plus : HookG.GD := ⟨.glo "_law_plus", "_law_plus", "_law_plus", defArgs s_law_plus, defBody s_law_plus, defScope s_law_plus⟩
def d_law_scaled : HookG.GD := ⟨.glo "_law_scaled", "_law_scaled", "_law_scaled", defArgs s_law_scaled, defBody s_law_scaled, defScope s_law_scaled⟩
def d_law_product : HookG.GD := ⟨.glo "_law_product", "_law_product", "_law_product", defArgs s_law_product, defBody s_law_product, defScope s_law_product⟩
def d_law_all_product : HookG.GD := ⟨.glo "_law_all_product", "_law_all_product", "_law_all_product", defArgs s_law_all_product, defBody s_law_all_product, defScope s_law_all_product⟩
def d_law_power : HookG.GD := ⟨.glo "_law_power", "_law_power", "_law_power", defArgs s_law_power, defBody s_law_power, defScope s_law_power⟩
def d_law_by_x : HookG.GD := ⟨.glo "_law_by_x", "_law_by_x", "_law_by_x", defArgs s_law_by_x, defBody s_law_by_x, defScope s_law_by_x⟩
def d_law_by_y : HookG.GD := ⟨.glo "_law_by_y", "_law_by_y", "_law_by_y", defArgs s_law_by_y, defBody s_law_by_y, defScope s_law_by_y⟩
def d_law_derived : HookG.GD := ⟨.glo "_law_derived", "_law_derived", "_law_derived", defArgs s_law_derived, defBody s_law_derived, defScope s_law_derived⟩
def d_law_laid : HookG.GD := ⟨.glo "_law_laid", "_law_laid", "_law_laid", defArgs s_law_laid, defBody s_law_laid, defScope s_law_laid⟩
def d_law_value : HookG.GD := ⟨.glo "_law_value", "_law_value", "_law_value", defArgs s_law_value, defBody s_law_value, defScope s_law_value⟩
def d_law_plain : HookG.GD := ⟨.glo "_law_plain", "_law_plain", "_law_plain", defArgs s_law_plain, defBody s_law_plain, defScope s_law_plain⟩
def d_law_line : HookG.GD := ⟨.glo "_law_line", "_law_line", "_law_line", defArgs s_law_line, defBody s_law_line, defScope s_law_line⟩
def d_law_point : HookG.GD := ⟨.glo "_law_point", "_law_point", "_law_point", defArgs s_law_point, defBody s_law_point, defScope s_law_point⟩
def d_law_small_form : HookG.GD := ⟨.glo "_law_small_form", "_law_small_form", "_law_small_form", defArgs s_law_small_form, defBody s_law_small_form, defScope s_law_small_form⟩
def d_law_form : HookG.GD := ⟨.glo "_law_form", "_law_form", "_law_form", defArgs s_law_form, defBody s_law_form, defScope s_law_form⟩
def d_law_table : HookG.GD := ⟨.glo "_law_table", "_law_table", "_law_table", defArgs s_law_table, defBody s_law_table, defScope s_law_table⟩
def d_law_det : HookG.GD := ⟨.glo "_law_det", "_law_det", "_law_det", defArgs s_law_det, defBody s_law_det, defScope s_law_det⟩
def d_law_layings_right : HookG.GD := ⟨.glo "_law_layings_right", "_law_layings_right", "_law_layings_right", defArgs s_law_layings_right, defBody s_law_layings_right, defScope s_law_layings_right⟩
def d_law_rule_right : HookG.GD := ⟨.glo "_law_rule_right", "_law_rule_right", "_law_rule_right", defArgs s_law_rule_right, defBody s_law_rule_right, defScope s_law_rule_right⟩
def d_law_power_right : HookG.GD := ⟨.glo "_law_power_right", "_law_power_right", "_law_power_right", defArgs s_law_power_right, defBody s_law_power_right, defScope s_law_power_right⟩
def d_law_right : HookG.GD := ⟨.glo "_law_right", "_law_right", "_law_right", defArgs s_law_right, defBody s_law_right, defScope s_law_right⟩
def d_law : HookG.GD := ⟨.glo "law", "law", "law", defArgs s_law, defBody s_law, defScope s_law⟩
def d_Told_init : HookG.GD := ⟨.met "Told" "__init__", "__init__", "Told.__init__", defArgs s_Told_init, defBody s_Told_init, defScope s_Told_init⟩
def d_Form_init : HookG.GD := ⟨.met "Form" "__init__", "__init__", "Form.__init__", defArgs s_Form_init, defBody s_Form_init, defScope s_Form_init⟩
def d_Form_power : HookG.GD := ⟨.cms "Form" "power", "power", "Form.power", defArgs s_Form_power, defBody s_Form_power, defScope s_Form_power⟩
def d_Form_entries : HookG.GD := ⟨.prp "Form" "entries", "entries", "Form.entries", defArgs s_Form_entries, defBody s_Form_entries, defScope s_Form_entries⟩
def d_Form_degree : HookG.GD := ⟨.prp "Form" "degree", "degree", "Form.degree", defArgs s_Form_degree, defBody s_Form_degree, defScope s_Form_degree⟩
def d_Form_is_zero : HookG.GD := ⟨.prp "Form" "is_zero", "is_zero", "Form.is_zero", defArgs s_Form_is_zero, defBody s_Form_is_zero, defScope s_Form_is_zero⟩
def d_Form_value : HookG.GD := ⟨.met "Form" "value", "value", "Form.value", defArgs s_Form_value, defBody s_Form_value, defScope s_Form_value⟩
def d_Form_changed : HookG.GD := ⟨.met "Form" "changed", "changed", "Form.changed", defArgs s_Form_changed, defBody s_Form_changed, defScope s_Form_changed⟩
def d_Form_add : HookG.GD := ⟨.met "Form" "__add__", "__add__", "Form.__add__", defArgs s_Form_add, defBody s_Form_add, defScope s_Form_add⟩
def d_Form_sub : HookG.GD := ⟨.met "Form" "__sub__", "__sub__", "Form.__sub__", defArgs s_Form_sub, defBody s_Form_sub, defScope s_Form_sub⟩
def d_Form_neg : HookG.GD := ⟨.met "Form" "__neg__", "__neg__", "Form.__neg__", defArgs s_Form_neg, defBody s_Form_neg, defScope s_Form_neg⟩
def d_Form_mul : HookG.GD := ⟨.met "Form" "__mul__", "__mul__", "Form.__mul__", defArgs s_Form_mul, defBody s_Form_mul, defScope s_Form_mul⟩
def d_Form_eq : HookG.GD := ⟨.met "Form" "__eq__", "__eq__", "Form.__eq__", defArgs s_Form_eq, defBody s_Form_eq, defScope s_Form_eq⟩
def d_Form_len : HookG.GD := ⟨.met "Form" "__len__", "__len__", "Form.__len__", defArgs s_Form_len, defBody s_Form_len, defScope s_Form_len⟩
def d_Form_iter : HookG.GD := ⟨.met "Form" "__iter__", "__iter__", "Form.__iter__", defArgs s_Form_iter, defBody s_Form_iter, defScope s_Form_iter⟩
def d_Form_str : HookG.GD := ⟨.met "Form" "__str__", "__str__", "Form.__str__", defArgs s_Form_str, defBody s_Form_str, defScope s_Form_str⟩
def fnL : List HookG.GD := [d_is_whole, d_is_short, d_is_from, d_are_short, d_require_short, d_require_from, d_lots_of, d_is_change, d_require_change, d_product_in, d_joined_entries, d_power_in, d_value_in, d_changed_in, d_is_zero_in, d_are_entries, d_form_of, d_require_form, d_sum_in, d_laying_slope, d_laying_slopes, d_add_product, d_laid_in, d_laid, d_law_dice, d_law_roll, d_law_near, d_law_gcd, d_law_shared, d_law_raised, d_law_choose, d_law_plus, d_law_scaled, d_law_product, d_law_all_product, d_law_power, d_law_by_x, d_law_by_y, d_law_derived, d_law_laid, d_law_value, d_law_plain, d_law_line, d_law_point, d_law_small_form, d_law_form, d_law_table, d_law_det, d_law_layings_right, d_law_rule_right, d_law_power_right, d_law_right, d_law, d_Told_init, d_Form_init, d_Form_power, d_Form_entries, d_Form_degree, d_Form_is_zero, d_Form_value, d_Form_changed, d_Form_add, d_Form_sub, d_Form_neg, d_Form_mul, d_Form_eq, d_Form_len, d_Form_iter, d_Form_str]
def faL : List He.Fa := [.glo "is_whole", .glo "is_short", .glo "is_from", .glo "are_short", .glo "require_short", .glo "require_from", .glo "lots_of", .glo "is_change", .glo "require_change", .glo "product_in", .glo "joined_entries", .glo "power_in", .glo "value_in", .glo "changed_in", .glo "is_zero_in", .glo "are_entries", .glo "form_of", .glo "require_form", .glo "sum_in", .glo "laying_slope", .glo "laying_slopes", .glo "add_product", .glo "laid_in", .glo "laid", .glo "_law_dice", .glo "_law_roll", .glo "_law_near", .glo "_law_gcd", .glo "_law_shared", .glo "_law_raised", .glo "_law_choose", .glo "_law_plus", .glo "_law_scaled", .glo "_law_product", .glo "_law_all_product", .glo "_law_power", .glo "_law_by_x", .glo "_law_by_y", .glo "_law_derived", .glo "_law_laid", .glo "_law_value", .glo "_law_plain", .glo "_law_line", .glo "_law_point", .glo "_law_small_form", .glo "_law_form", .glo "_law_table", .glo "_law_det", .glo "_law_layings_right", .glo "_law_rule_right", .glo "_law_power_right", .glo "_law_right", .glo "law", .glo "Told", .glo "Form", .free "abs", .free "all", .free "any", .free "bool", .free "enumerate", .free "int", .free "isinstance", .free "iter", .free "len", .free "list", .free "max", .free "min", .free "range", .free "str", .free "tuple", .free "zip", .int "GREATEST" 1000000000000000000000000000000000000000000000000000000000000, .int "MAX_DEGREE" 40, .int "MOST_LAID" 40, .mkr "Told", .mkr "Form"]
def exL (K : PySem.W.Frag) : Bool := OwnF.ocB K "Told" && (HookG.slotB K "Told" "own_row" 0 && (OwnF.ocB K "Form" && (HookG.slotB K "Form" "own_entries" 0 && (HookG.mtB K "Told" "__init__" && (HookG.mtB K "Form" "__init__" && (OwnC.cmB K "Form" "power" && (HookG.prB K "Form" "entries" && (HookG.prB K "Form" "degree" && (HookG.prB K "Form" "is_zero" && (HookG.mtB K "Form" "value" && (HookG.mtB K "Form" "changed" && (HookG.mtB K "Form" "__add__" && (HookG.mtB K "Form" "__sub__" && (HookG.mtB K "Form" "__neg__" && (HookG.mtB K "Form" "__mul__" && (HookG.mtB K "Form" "__eq__" && (HookG.mtB K "Form" "__len__" && (HookG.mtB K "Form" "__iter__" && (HookG.mtB K "Form" "__str__" && (HookG.dO (PySem.W.kitOne K (.ref (He.ga K "Told")) (.ref (He.ga K "Form"))) (some false) && (HookG.dO (PySem.W.kitOne K (.ref (He.ga K "Form")) (.ref (He.ga K "Told"))) (some false))))))))))))))))))))))
theorem facts_of {K : PySem.W.Frag} {h : Heap} {mg : Str → Option Value} (X : K.In h) (G : h.Ns mainGlobals mg) (c : HookG.SaysG faL fnL exL K) : Nonempty (Facts K mg) := by
  have ex := c.more
  unfold exL at ex
  obtain ⟨ex_0, ex⟩ := He.ba ex
  obtain ⟨ex_1, ex⟩ := He.ba ex
  obtain ⟨ex_2, ex⟩ := He.ba ex
  obtain ⟨ex_3, ex⟩ := He.ba ex
  obtain ⟨ex_4, ex⟩ := He.ba ex
  obtain ⟨ex_5, ex⟩ := He.ba ex
  obtain ⟨ex_6, ex⟩ := He.ba ex
  obtain ⟨ex_7, ex⟩ := He.ba ex
  obtain ⟨ex_8, ex⟩ := He.ba ex
  obtain ⟨ex_9, ex⟩ := He.ba ex
  obtain ⟨ex_10, ex⟩ := He.ba ex
  obtain ⟨ex_11, ex⟩ := He.ba ex
  obtain ⟨ex_12, ex⟩ := He.ba ex
  obtain ⟨ex_13, ex⟩ := He.ba ex
  obtain ⟨ex_14, ex⟩ := He.ba ex
  obtain ⟨ex_15, ex⟩ := He.ba ex
  obtain ⟨ex_16, ex⟩ := He.ba ex
  obtain ⟨ex_17, ex⟩ := He.ba ex
  obtain ⟨ex_18, ex⟩ := He.ba ex
  obtain ⟨ex_19, ex⟩ := He.ba ex
  obtain ⟨ex_20, ex⟩ := He.ba ex
  obtain ⟨fd_is_whole, F_is_whole⟩ := c.def_ 0 (d := d_is_whole) rfl
  obtain ⟨fd_is_short, F_is_short⟩ := c.def_ 1 (d := d_is_short) rfl
  obtain ⟨fd_is_from, F_is_from⟩ := c.def_ 2 (d := d_is_from) rfl
  obtain ⟨fd_are_short, F_are_short⟩ := c.def_ 3 (d := d_are_short) rfl
  obtain ⟨fd_require_short, F_require_short⟩ := c.def_ 4 (d := d_require_short) rfl
  obtain ⟨fd_require_from, F_require_from⟩ := c.def_ 5 (d := d_require_from) rfl
  obtain ⟨fd_lots_of, F_lots_of⟩ := c.def_ 6 (d := d_lots_of) rfl
  obtain ⟨fd_is_change, F_is_change⟩ := c.def_ 7 (d := d_is_change) rfl
  obtain ⟨fd_require_change, F_require_change⟩ := c.def_ 8 (d := d_require_change) rfl
  obtain ⟨fd_product_in, F_product_in⟩ := c.def_ 9 (d := d_product_in) rfl
  obtain ⟨fd_joined_entries, F_joined_entries⟩ := c.def_ 10 (d := d_joined_entries) rfl
  obtain ⟨fd_power_in, F_power_in⟩ := c.def_ 11 (d := d_power_in) rfl
  obtain ⟨fd_value_in, F_value_in⟩ := c.def_ 12 (d := d_value_in) rfl
  obtain ⟨fd_changed_in, F_changed_in⟩ := c.def_ 13 (d := d_changed_in) rfl
  obtain ⟨fd_is_zero_in, F_is_zero_in⟩ := c.def_ 14 (d := d_is_zero_in) rfl
  obtain ⟨fd_are_entries, F_are_entries⟩ := c.def_ 15 (d := d_are_entries) rfl
  obtain ⟨fd_form_of, F_form_of⟩ := c.def_ 16 (d := d_form_of) rfl
  obtain ⟨fd_require_form, F_require_form⟩ := c.def_ 17 (d := d_require_form) rfl
  obtain ⟨fd_sum_in, F_sum_in⟩ := c.def_ 18 (d := d_sum_in) rfl
  obtain ⟨fd_laying_slope, F_laying_slope⟩ := c.def_ 19 (d := d_laying_slope) rfl
  obtain ⟨fd_laying_slopes, F_laying_slopes⟩ := c.def_ 20 (d := d_laying_slopes) rfl
  obtain ⟨fd_add_product, F_add_product⟩ := c.def_ 21 (d := d_add_product) rfl
  obtain ⟨fd_laid_in, F_laid_in⟩ := c.def_ 22 (d := d_laid_in) rfl
  obtain ⟨fd_laid, F_laid⟩ := c.def_ 23 (d := d_laid) rfl
  obtain ⟨fd_law_dice, F_law_dice⟩ := c.def_ 24 (d := d_law_dice) rfl
  obtain ⟨fd_law_roll, F_law_roll⟩ := c.def_ 25 (d := d_law_roll) rfl
  obtain ⟨fd_law_near, F_law_near⟩ := c.def_ 26 (d := d_law_near) rfl
  obtain ⟨fd_law_gcd, F_law_gcd⟩ := c.def_ 27 (d := d_law_gcd) rfl
  obtain ⟨fd_law_shared, F_law_shared⟩ := c.def_ 28 (d := d_law_shared) rfl
  obtain ⟨fd_law_raised, F_law_raised⟩ := c.def_ 29 (d := d_law_raised) rfl
  obtain ⟨fd_law_choose, F_law_choose⟩ := c.def_ 30 (d := d_law_choose) rfl
  obtain ⟨fd_law_plus, F_law_plus⟩ := c.def_ 31 (d := d_law_plus) rfl
  obtain ⟨fd_law_scaled, F_law_scaled⟩ := c.def_ 32 (d := d_law_scaled) rfl
  obtain ⟨fd_law_product, F_law_product⟩ := c.def_ 33 (d := d_law_product) rfl
  obtain ⟨fd_law_all_product, F_law_all_product⟩ := c.def_ 34 (d := d_law_all_product) rfl
  obtain ⟨fd_law_power, F_law_power⟩ := c.def_ 35 (d := d_law_power) rfl
  obtain ⟨fd_law_by_x, F_law_by_x⟩ := c.def_ 36 (d := d_law_by_x) rfl
  obtain ⟨fd_law_by_y, F_law_by_y⟩ := c.def_ 37 (d := d_law_by_y) rfl
  obtain ⟨fd_law_derived, F_law_derived⟩ := c.def_ 38 (d := d_law_derived) rfl
  obtain ⟨fd_law_laid, F_law_laid⟩ := c.def_ 39 (d := d_law_laid) rfl
  obtain ⟨fd_law_value, F_law_value⟩ := c.def_ 40 (d := d_law_value) rfl
  obtain ⟨fd_law_plain, F_law_plain⟩ := c.def_ 41 (d := d_law_plain) rfl
  obtain ⟨fd_law_line, F_law_line⟩ := c.def_ 42 (d := d_law_line) rfl
  obtain ⟨fd_law_point, F_law_point⟩ := c.def_ 43 (d := d_law_point) rfl
  obtain ⟨fd_law_small_form, F_law_small_form⟩ := c.def_ 44 (d := d_law_small_form) rfl
  obtain ⟨fd_law_form, F_law_form⟩ := c.def_ 45 (d := d_law_form) rfl
  obtain ⟨fd_law_table, F_law_table⟩ := c.def_ 46 (d := d_law_table) rfl
  obtain ⟨fd_law_det, F_law_det⟩ := c.def_ 47 (d := d_law_det) rfl
  obtain ⟨fd_law_layings_right, F_law_layings_right⟩ := c.def_ 48 (d := d_law_layings_right) rfl
  obtain ⟨fd_law_rule_right, F_law_rule_right⟩ := c.def_ 49 (d := d_law_rule_right) rfl
  obtain ⟨fd_law_power_right, F_law_power_right⟩ := c.def_ 50 (d := d_law_power_right) rfl
  obtain ⟨fd_law_right, F_law_right⟩ := c.def_ 51 (d := d_law_right) rfl
  obtain ⟨fd_law, F_law⟩ := c.def_ 52 (d := d_law) rfl
  obtain ⟨fd_Told_init, F_Told_init⟩ := c.def_ 53 (d := d_Told_init) rfl
  obtain ⟨fd_Form_init, F_Form_init⟩ := c.def_ 54 (d := d_Form_init) rfl
  obtain ⟨fd_Form_power, F_Form_power⟩ := c.def_ 55 (d := d_Form_power) rfl
  obtain ⟨fd_Form_entries, F_Form_entries⟩ := c.def_ 56 (d := d_Form_entries) rfl
  obtain ⟨fd_Form_degree, F_Form_degree⟩ := c.def_ 57 (d := d_Form_degree) rfl
  obtain ⟨fd_Form_is_zero, F_Form_is_zero⟩ := c.def_ 58 (d := d_Form_is_zero) rfl
  obtain ⟨fd_Form_value, F_Form_value⟩ := c.def_ 59 (d := d_Form_value) rfl
  obtain ⟨fd_Form_changed, F_Form_changed⟩ := c.def_ 60 (d := d_Form_changed) rfl
  obtain ⟨fd_Form_add, F_Form_add⟩ := c.def_ 61 (d := d_Form_add) rfl
  obtain ⟨fd_Form_sub, F_Form_sub⟩ := c.def_ 62 (d := d_Form_sub) rfl
  obtain ⟨fd_Form_neg, F_Form_neg⟩ := c.def_ 63 (d := d_Form_neg) rfl
  obtain ⟨fd_Form_mul, F_Form_mul⟩ := c.def_ 64 (d := d_Form_mul) rfl
  obtain ⟨fd_Form_eq, F_Form_eq⟩ := c.def_ 65 (d := d_Form_eq) rfl
  obtain ⟨fd_Form_len, F_Form_len⟩ := c.def_ 66 (d := d_Form_len) rfl
  obtain ⟨fd_Form_iter, F_Form_iter⟩ := c.def_ 67 (d := d_Form_iter) rfl
  obtain ⟨fd_Form_str, F_Form_str⟩ := c.def_ 68 (d := d_Form_str) rfl
  exact ⟨{ f_is_whole := _, fd_is_whole := _, F_is_whole := F_is_whole, b_is_whole := (F_is_whole.bindsN fun _ _ _ _ _ _ us hl => match us, hl with | [_], _ => rfl), g_is_whole := He.glo_ok X G (c.fact 0 (f := .glo "is_whole") rfl), f_is_short := _, fd_is_short := _, F_is_short := F_is_short, b_is_short := (F_is_short.bindsN fun _ _ _ _ _ _ us hl => match us, hl with | [_], _ => rfl), g_is_short := He.glo_ok X G (c.fact 1 (f := .glo "is_short") rfl), f_is_from := _, fd_is_from := _, F_is_from := F_is_from, b_is_from := (F_is_from.bindsN fun _ _ _ _ _ _ us hl => match us, hl with | [_, _, _], _ => rfl), g_is_from := He.glo_ok X G (c.fact 2 (f := .glo "is_from") rfl), f_are_short := _, fd_are_short := _, F_are_short := F_are_short, b_are_short := (F_are_short.bindsN fun _ _ _ _ _ _ us hl => match us, hl with | [_], _ => rfl), g_are_short := He.glo_ok X G (c.fact 3 (f := .glo "are_short") rfl), f_require_short := _, fd_require_short := _, F_require_short := F_require_short, b_require_short := (F_require_short.bindsN fun _ _ _ _ _ _ us hl => match us, hl with | [_], _ => rfl), g_require_short := He.glo_ok X G (c.fact 4 (f := .glo "require_short") rfl), f_require_from := _, fd_require_from := _, F_require_from := F_require_from, b_require_from := (F_require_from.bindsN fun _ _ _ _ _ _ us hl => match us, hl with | [_, _, _], _ => rfl), g_require_from := He.glo_ok X G (c.fact 5 (f := .glo "require_from") rfl), f_lots_of := _, fd_lots_of := _, F_lots_of := F_lots_of, b_lots_of := (F_lots_of.bindsN fun _ _ _ _ _ _ us hl => match us, hl with | [_, _], _ => rfl), g_lots_of := He.glo_ok X G (c.fact 6 (f := .glo "lots_of") rfl), f_is_change := _, fd_is_change := _, F_is_change := F_is_change, b_is_change := (F_is_change.bindsN fun _ _ _ _ _ _ us hl => match us, hl with | [_], _ => rfl), g_is_change := He.glo_ok X G (c.fact 7 (f := .glo "is_change") rfl), f_require_change := _, fd_require_change := _, F_require_change := F_require_change, b_require_change := (F_require_change.bindsN fun _ _ _ _ _ _ us hl => match us, hl with | [_], _ => rfl), g_require_change := He.glo_ok X G (c.fact 8 (f := .glo "require_change") rfl), f_product_in := _, fd_product_in := _, F_product_in := F_product_in, b_product_in := (F_product_in.bindsN fun _ _ _ _ _ _ us hl => match us, hl with | [_, _], _ => rfl), g_product_in := He.glo_ok X G (c.fact 9 (f := .glo "product_in") rfl), f_joined_entries := _, fd_joined_entries := _, F_joined_entries := F_joined_entries, b_joined_entries := (F_joined_entries.bindsN fun _ _ _ _ _ _ us hl => match us, hl with | [_, _], _ => rfl), g_joined_entries := He.glo_ok X G (c.fact 10 (f := .glo "joined_entries") rfl), f_power_in := _, fd_power_in := _, F_power_in := F_power_in, b_power_in := (F_power_in.bindsN fun _ _ _ _ _ _ us hl => match us, hl with | [_, _], _ => rfl), g_power_in := He.glo_ok X G (c.fact 11 (f := .glo "power_in") rfl), f_value_in := _, fd_value_in := _, F_value_in := F_value_in, b_value_in := (F_value_in.bindsN fun _ _ _ _ _ _ us hl => match us, hl with | [_, _, _], _ => rfl), g_value_in := He.glo_ok X G (c.fact 12 (f := .glo "value_in") rfl), f_changed_in := _, fd_changed_in := _, F_changed_in := F_changed_in, b_changed_in := (F_changed_in.bindsN fun _ _ _ _ _ _ us hl => match us, hl with | [_, _], _ => rfl), g_changed_in := He.glo_ok X G (c.fact 13 (f := .glo "changed_in") rfl), f_is_zero_in := _, fd_is_zero_in := _, F_is_zero_in := F_is_zero_in, b_is_zero_in := (F_is_zero_in.bindsN fun _ _ _ _ _ _ us hl => match us, hl with | [_], _ => rfl), g_is_zero_in := He.glo_ok X G (c.fact 14 (f := .glo "is_zero_in") rfl), f_are_entries := _, fd_are_entries := _, F_are_entries := F_are_entries, b_are_entries := (F_are_entries.bindsN fun _ _ _ _ _ _ us hl => match us, hl with | [_], _ => rfl), g_are_entries := He.glo_ok X G (c.fact 15 (f := .glo "are_entries") rfl), f_form_of := _, fd_form_of := _, F_form_of := F_form_of, b_form_of := (F_form_of.bindsN fun _ _ _ _ _ _ us hl => match us, hl with | [_], _ => rfl), g_form_of := He.glo_ok X G (c.fact 16 (f := .glo "form_of") rfl), f_require_form := _, fd_require_form := _, F_require_form := F_require_form, b_require_form := (F_require_form.bindsN fun _ _ _ _ _ _ us hl => match us, hl with | [_], _ => rfl), g_require_form := He.glo_ok X G (c.fact 17 (f := .glo "require_form") rfl), f_sum_in := _, fd_sum_in := _, F_sum_in := F_sum_in, b_sum_in := (F_sum_in.bindsN fun _ _ _ _ _ _ us hl => match us, hl with | [_, _, _], _ => rfl), g_sum_in := He.glo_ok X G (c.fact 18 (f := .glo "sum_in") rfl), f_laying_slope := _, fd_laying_slope := _, F_laying_slope := F_laying_slope, b_laying_slope := (F_laying_slope.bindsN fun _ _ _ _ _ _ us hl => match us, hl with | [_, _], _ => rfl), g_laying_slope := He.glo_ok X G (c.fact 19 (f := .glo "laying_slope") rfl), f_laying_slopes := _, fd_laying_slopes := _, F_laying_slopes := F_laying_slopes, b_laying_slopes := (F_laying_slopes.bindsN fun _ _ _ _ _ _ us hl => match us, hl with | [_, _], _ => rfl), g_laying_slopes := He.glo_ok X G (c.fact 20 (f := .glo "laying_slopes") rfl), f_add_product := _, fd_add_product := _, F_add_product := F_add_product, b_add_product := (F_add_product.bindsN fun _ _ _ _ _ _ us hl => match us, hl with | [_, _, _, _], _ => rfl), g_add_product := He.glo_ok X G (c.fact 21 (f := .glo "add_product") rfl), f_laid_in := _, fd_laid_in := _, F_laid_in := F_laid_in, b_laid_in := (F_laid_in.bindsN fun _ _ _ _ _ _ us hl => match us, hl with | [_, _, _], _ => rfl), g_laid_in := He.glo_ok X G (c.fact 22 (f := .glo "laid_in") rfl), f_laid := _, fd_laid := _, F_laid := F_laid, b_laid := (F_laid.bindsN fun _ _ _ _ _ _ us hl => match us, hl with | [_, _, _], _ => rfl), g_laid := He.glo_ok X G (c.fact 23 (f := .glo "laid") rfl), f_law_dice := _, fd_law_dice := _, F_law_dice := F_law_dice, b_law_dice := (F_law_dice.bindsN fun _ _ _ _ _ _ us hl => match us, hl with | [_, _], _ => rfl), g_law_dice := He.glo_ok X G (c.fact 24 (f := .glo "_law_dice") rfl), f_law_roll := _, fd_law_roll := _, F_law_roll := F_law_roll, b_law_roll := (F_law_roll.bindsN fun _ _ _ _ _ _ us hl => match us, hl with | [_, _], _ => rfl), g_law_roll := He.glo_ok X G (c.fact 25 (f := .glo "_law_roll") rfl), f_law_near := _, fd_law_near := _, F_law_near := F_law_near, b_law_near := (F_law_near.bindsN fun _ _ _ _ _ _ us hl => match us, hl with | [_, _], _ => rfl), g_law_near := He.glo_ok X G (c.fact 26 (f := .glo "_law_near") rfl), f_law_gcd := _, fd_law_gcd := _, F_law_gcd := F_law_gcd, b_law_gcd := (F_law_gcd.bindsN fun _ _ _ _ _ _ us hl => match us, hl with | [_, _], _ => rfl), g_law_gcd := He.glo_ok X G (c.fact 27 (f := .glo "_law_gcd") rfl), f_law_shared := _, fd_law_shared := _, F_law_shared := F_law_shared, b_law_shared := (F_law_shared.bindsN fun _ _ _ _ _ _ us hl => match us, hl with | [_], _ => rfl), g_law_shared := He.glo_ok X G (c.fact 28 (f := .glo "_law_shared") rfl), f_law_raised := _, fd_law_raised := _, F_law_raised := F_law_raised, b_law_raised := (F_law_raised.bindsN fun _ _ _ _ _ _ us hl => match us, hl with | [_, _], _ => rfl), g_law_raised := He.glo_ok X G (c.fact 29 (f := .glo "_law_raised") rfl), f_law_choose := _, fd_law_choose := _, F_law_choose := F_law_choose, b_law_choose := (F_law_choose.bindsN fun _ _ _ _ _ _ us hl => match us, hl with | [_, _], _ => rfl), g_law_choose := He.glo_ok X G (c.fact 30 (f := .glo "_law_choose") rfl), f_law_plus := _, fd_law_plus := _, F_law_plus := F_law_plus, b_law_plus := (F_law_plus.bindsN fun _ _ _ _ _ _ us hl => match us, hl with | [_, _], _ => rfl), g_law_plus := He.glo_ok X G (c.fact 31 (f := .glo "_law_plus") rfl), f_law_scaled := _, fd_law_scaled := _, F_law_scaled := F_law_scaled, b_law_scaled := (F_law_scaled.bindsN fun _ _ _ _ _ _ us hl => match us, hl with | [_, _], _ => rfl), g_law_scaled := He.glo_ok X G (c.fact 32 (f := .glo "_law_scaled") rfl), f_law_product := _, fd_law_product := _, F_law_product := F_law_product, b_law_product := (F_law_product.bindsN fun _ _ _ _ _ _ us hl => match us, hl with | [_, _], _ => rfl), g_law_product := He.glo_ok X G (c.fact 33 (f := .glo "_law_product") rfl), f_law_all_product := _, fd_law_all_product := _, F_law_all_product := F_law_all_product, b_law_all_product := (F_law_all_product.bindsN fun _ _ _ _ _ _ us hl => match us, hl with | [_], _ => rfl), g_law_all_product := He.glo_ok X G (c.fact 34 (f := .glo "_law_all_product") rfl), f_law_power := _, fd_law_power := _, F_law_power := F_law_power, b_law_power := (F_law_power.bindsN fun _ _ _ _ _ _ us hl => match us, hl with | [_, _], _ => rfl), g_law_power := He.glo_ok X G (c.fact 35 (f := .glo "_law_power") rfl), f_law_by_x := _, fd_law_by_x := _, F_law_by_x := F_law_by_x, b_law_by_x := (F_law_by_x.bindsN fun _ _ _ _ _ _ us hl => match us, hl with | [_], _ => rfl), g_law_by_x := He.glo_ok X G (c.fact 36 (f := .glo "_law_by_x") rfl), f_law_by_y := _, fd_law_by_y := _, F_law_by_y := F_law_by_y, b_law_by_y := (F_law_by_y.bindsN fun _ _ _ _ _ _ us hl => match us, hl with | [_], _ => rfl), g_law_by_y := He.glo_ok X G (c.fact 37 (f := .glo "_law_by_y") rfl), f_law_derived := _, fd_law_derived := _, F_law_derived := F_law_derived, b_law_derived := (F_law_derived.bindsN fun _ _ _ _ _ _ us hl => match us, hl with | [_, _, _], _ => rfl), g_law_derived := He.glo_ok X G (c.fact 38 (f := .glo "_law_derived") rfl), f_law_laid := _, fd_law_laid := _, F_law_laid := F_law_laid, b_law_laid := (F_law_laid.bindsN fun _ _ _ _ _ _ us hl => match us, hl with | [_, _, _], _ => rfl), g_law_laid := He.glo_ok X G (c.fact 39 (f := .glo "_law_laid") rfl), f_law_value := _, fd_law_value := _, F_law_value := F_law_value, b_law_value := (F_law_value.bindsN fun _ _ _ _ _ _ us hl => match us, hl with | [_, _, _], _ => rfl), g_law_value := He.glo_ok X G (c.fact 40 (f := .glo "_law_value") rfl), f_law_plain := _, fd_law_plain := _, F_law_plain := F_law_plain, b_law_plain := (F_law_plain.bindsN fun _ _ _ _ _ _ us hl => match us, hl with | [_], _ => rfl), g_law_plain := He.glo_ok X G (c.fact 41 (f := .glo "_law_plain") rfl), f_law_line := _, fd_law_line := _, F_law_line := F_law_line, b_law_line := (F_law_line.bindsN fun _ _ _ _ _ _ us hl => match us, hl with | [_], _ => rfl), g_law_line := He.glo_ok X G (c.fact 42 (f := .glo "_law_line") rfl), f_law_point := _, fd_law_point := _, F_law_point := F_law_point, b_law_point := (F_law_point.bindsN fun _ _ _ _ _ _ us hl => match us, hl with | [_, _], _ => rfl), g_law_point := He.glo_ok X G (c.fact 43 (f := .glo "_law_point") rfl), f_law_small_form := _, fd_law_small_form := _, F_law_small_form := F_law_small_form, b_law_small_form := (F_law_small_form.bindsN fun _ _ _ _ _ _ us hl => match us, hl with | [_, _, _], _ => rfl), g_law_small_form := He.glo_ok X G (c.fact 44 (f := .glo "_law_small_form") rfl), f_law_form := _, fd_law_form := _, F_law_form := F_law_form, b_law_form := (F_law_form.bindsN fun _ _ _ _ _ _ us hl => match us, hl with | [_, _], _ => rfl), g_law_form := He.glo_ok X G (c.fact 45 (f := .glo "_law_form") rfl), f_law_table := _, fd_law_table := _, F_law_table := F_law_table, b_law_table := (F_law_table.bindsN fun _ _ _ _ _ _ us hl => match us, hl with | [_, _], _ => rfl), g_law_table := He.glo_ok X G (c.fact 46 (f := .glo "_law_table") rfl), f_law_det := _, fd_law_det := _, F_law_det := F_law_det, b_law_det := (F_law_det.bindsN fun _ _ _ _ _ _ us hl => match us, hl with | [_], _ => rfl), g_law_det := He.glo_ok X G (c.fact 47 (f := .glo "_law_det") rfl), f_law_layings_right := _, fd_law_layings_right := _, F_law_layings_right := F_law_layings_right, b_law_layings_right := (F_law_layings_right.bindsN fun _ _ _ _ _ _ us hl => match us, hl with | [_, _, _], _ => rfl), g_law_layings_right := He.glo_ok X G (c.fact 48 (f := .glo "_law_layings_right") rfl), f_law_rule_right := _, fd_law_rule_right := _, F_law_rule_right := F_law_rule_right, b_law_rule_right := (F_law_rule_right.bindsN fun _ _ _ _ _ _ us hl => match us, hl with | [_, _, _], _ => rfl), g_law_rule_right := He.glo_ok X G (c.fact 49 (f := .glo "_law_rule_right") rfl), f_law_power_right := _, fd_law_power_right := _, F_law_power_right := F_law_power_right, b_law_power_right := (F_law_power_right.bindsN fun _ _ _ _ _ _ us hl => match us, hl with | [_, _], _ => rfl), g_law_power_right := He.glo_ok X G (c.fact 50 (f := .glo "_law_power_right") rfl), f_law_right := _, fd_law_right := _, F_law_right := F_law_right, b_law_right := (F_law_right.bindsN fun _ _ _ _ _ _ us hl => match us, hl with | [_], _ => rfl), g_law_right := He.glo_ok X G (c.fact 51 (f := .glo "_law_right") rfl), f_law := _, fd_law := _, F_law := F_law, b_law := (F_law.bindsN fun _ _ _ _ _ _ us hl => match us, hl with | [_], _ => rfl), g_law := He.glo_ok X G (c.fact 52 (f := .glo "law") rfl), f_Told_init := _, fd_Told_init := _, F_Told_init := F_Told_init, b_Told_init := (F_Told_init.bindsN fun _ _ _ _ _ _ us hl => match us, hl with | [_, _], _ => rfl), f_Form_init := _, fd_Form_init := _, F_Form_init := F_Form_init, b_Form_init := (F_Form_init.bindsN fun _ _ _ _ _ _ us hl => match us, hl with | [_, _], _ => rfl), f_Form_power := _, fd_Form_power := _, F_Form_power := F_Form_power, b_Form_power := (F_Form_power.bindsN fun _ _ _ _ _ _ us hl => match us, hl with | [_, _, _], _ => rfl), f_Form_entries := _, fd_Form_entries := _, F_Form_entries := F_Form_entries, b_Form_entries := (F_Form_entries.bindsN fun _ _ _ _ _ _ us hl => match us, hl with | [_], _ => rfl), f_Form_degree := _, fd_Form_degree := _, F_Form_degree := F_Form_degree, b_Form_degree := (F_Form_degree.bindsN fun _ _ _ _ _ _ us hl => match us, hl with | [_], _ => rfl), f_Form_is_zero := _, fd_Form_is_zero := _, F_Form_is_zero := F_Form_is_zero, b_Form_is_zero := (F_Form_is_zero.bindsN fun _ _ _ _ _ _ us hl => match us, hl with | [_], _ => rfl), f_Form_value := _, fd_Form_value := _, F_Form_value := F_Form_value, b_Form_value := (F_Form_value.bindsN fun _ _ _ _ _ _ us hl => match us, hl with | [_, _, _], _ => rfl), f_Form_changed := _, fd_Form_changed := _, F_Form_changed := F_Form_changed, b_Form_changed := (F_Form_changed.bindsN fun _ _ _ _ _ _ us hl => match us, hl with | [_, _], _ => rfl), f_Form_add := _, fd_Form_add := _, F_Form_add := F_Form_add, b_Form_add := (F_Form_add.bindsN fun _ _ _ _ _ _ us hl => match us, hl with | [_, _], _ => rfl), f_Form_sub := _, fd_Form_sub := _, F_Form_sub := F_Form_sub, b_Form_sub := (F_Form_sub.bindsN fun _ _ _ _ _ _ us hl => match us, hl with | [_, _], _ => rfl), f_Form_neg := _, fd_Form_neg := _, F_Form_neg := F_Form_neg, b_Form_neg := (F_Form_neg.bindsN fun _ _ _ _ _ _ us hl => match us, hl with | [_], _ => rfl), f_Form_mul := _, fd_Form_mul := _, F_Form_mul := F_Form_mul, b_Form_mul := (F_Form_mul.bindsN fun _ _ _ _ _ _ us hl => match us, hl with | [_, _], _ => rfl), f_Form_eq := _, fd_Form_eq := _, F_Form_eq := F_Form_eq, b_Form_eq := (F_Form_eq.bindsN fun _ _ _ _ _ _ us hl => match us, hl with | [_, _], _ => rfl), f_Form_len := _, fd_Form_len := _, F_Form_len := F_Form_len, b_Form_len := (F_Form_len.bindsN fun _ _ _ _ _ _ us hl => match us, hl with | [_], _ => rfl), f_Form_iter := _, fd_Form_iter := _, F_Form_iter := F_Form_iter, b_Form_iter := (F_Form_iter.bindsN fun _ _ _ _ _ _ us hl => match us, hl with | [_], _ => rfl), f_Form_str := _, fd_Form_str := _, F_Form_str := F_Form_str, b_Form_str := (F_Form_str.bindsN fun _ _ _ _ _ _ us hl => match us, hl with | [_], _ => rfl), C_Told := He.ga K "Told", g_Told := He.glo_ok X G (c.fact 53 (f := .glo "Told") rfl), mk_Told := He.mkr_ok (c.fact 74 (f := .mkr "Told") rfl), C_Form := He.ga K "Form", g_Form := He.glo_ok X G (c.fact 54 (f := .glo "Form") rfl), mk_Form := He.mkr_ok (c.fact 75 (f := .mkr "Form") rfl), z_abs := He.free_ok X G (c.fact 55 (f := .free "abs") rfl), z_all := He.free_ok X G (c.fact 56 (f := .free "all") rfl), z_any := He.free_ok X G (c.fact 57 (f := .free "any") rfl), z_bool := He.free_ok X G (c.fact 58 (f := .free "bool") rfl), z_enumerate := He.free_ok X G (c.fact 59 (f := .free "enumerate") rfl), z_int := He.free_ok X G (c.fact 60 (f := .free "int") rfl), z_isinstance := He.free_ok X G (c.fact 61 (f := .free "isinstance") rfl), z_iter := He.free_ok X G (c.fact 62 (f := .free "iter") rfl), z_len := He.free_ok X G (c.fact 63 (f := .free "len") rfl), z_list := He.free_ok X G (c.fact 64 (f := .free "list") rfl), z_max := He.free_ok X G (c.fact 65 (f := .free "max") rfl), z_min := He.free_ok X G (c.fact 66 (f := .free "min") rfl), z_range := He.free_ok X G (c.fact 67 (f := .free "range") rfl), z_str := He.free_ok X G (c.fact 68 (f := .free "str") rfl), z_tuple := He.free_ok X G (c.fact 69 (f := .free "tuple") rfl), z_zip := He.free_ok X G (c.fact 70 (f := .free "zip") rfl), c_GREATEST := He.int_ok X G (c.fact 71 (f := .int "GREATEST" 1000000000000000000000000000000000000000000000000000000000000) rfl), c_MAX_DEGREE := He.int_ok X G (c.fact 72 (f := .int "MAX_DEGREE" 40) rfl), c_MOST_LAID := He.int_ok X G (c.fact 73 (f := .int "MOST_LAID" 40) rfl), oc_Told := OwnF.ocB_ok ex_0, a_own_row := _, sl_own_row := HookG.slotB_ok ex_1 (by decide), oc_Form := OwnF.ocB_ok ex_2, a_own_entries := _, sl_own_entries := HookG.slotB_ok ex_3 (by decide), mt_Told_init := HookG.mtB_ok ex_4, mt_Form_init := HookG.mtB_ok ex_5, p_Form_power := _, cm_Form_power := OwnC.cmB_ok ex_6, p_Form_entries := _, pr_Form_entries := HookG.prB_ok ex_7, p_Form_degree := _, pr_Form_degree := HookG.prB_ok ex_8, p_Form_is_zero := _, pr_Form_is_zero := HookG.prB_ok ex_9, mt_Form_value := HookG.mtB_ok ex_10, mt_Form_changed := HookG.mtB_ok ex_11, mt_Form_add := HookG.mtB_ok ex_12, mt_Form_sub := HookG.mtB_ok ex_13, mt_Form_neg := HookG.mtB_ok ex_14, mt_Form_mul := HookG.mtB_ok ex_15, mt_Form_eq := HookG.mtB_ok ex_16, mt_Form_len := HookG.mtB_ok ex_17, mt_Form_iter := HookG.mtB_ok ex_18, mt_Form_str := HookG.mtB_ok ex_19, kit_Told_Form := HookG.dO_ok ex_20, kit_Form_Told := HookG.dO_ok ex }⟩

end K10

set_option Elab.async false
set_option linter.all false
set_option maxRecDepth 100000
set_option maxHeartbeats 0
namespace K10
open PySem PySem.Spec PyProof.Rows L2
abbrev R : PySem.W.OpenRow := PySem.W.OpenLaw.row PySem.Challenge.rw_sourceforms_k10_whole_layings
abbrev hk : PySem.W.Hook := HookG.hookW 5 faL fnL exL
def ob (s : PySem.W.SharedT) : HookG.AlG := HookG.obsGW 5 faL fnL exL (HandSHeadRun.getT s)
theorem ob_eq (s : PySem.W.SharedT) : ob s = hk.obs s.abs := HookG.obsGW_eq (HandSHeadRun.getT_eq s)
def loose0 : List Str := ["_wall", "LetterError", "InvalidForm", "InvalidTable", "InvalidPoint", "InvalidOperation", "InvalidNumber", "TooMany", "GREATEST", "is_whole", "is_short", "is_from", "are_short", "require_short", "require_from", "lots_of", "is_change", "require_change", "MAX_DEGREE", "product_in", "joined_entries", "power_in", "value_in", "changed_in", "derived_in", "is_zero_in", "Told", "are_entries", "Form", "form_of"]
def loose1 : List Str := ["require_form", "sum_in", "MOST_LAID", "laying_slope", "laying_slopes", "add_product", "laid_in", "laid", "_law_dice", "_law_roll", "_law_near", "_law_gcd", "_law_shared", "_law_raised", "_law_choose", "_law_plus", "_law_scaled", "_law_product", "_law_all_product", "_law_power", "_law_by_x", "_law_by_y", "_law_derived", "_law_laid", "_law_value", "_law_plain", "_law_line", "_law_point", "_law_small_form", "_law_form"]
def loose2 : List Str := ["_law_table", "_law_det", "_law_layings_right", "_law_rule_right", "_law_power_right", "_law_right"]
def loose : List Str := loose0 ++ loose1 ++ loose2
theorem run (w : World) : HandSHeadRun.RunEq R (PySem.W.view R.prog [71]) hk ob 6000 loose w := by
  intro os
  kernel_rfl
end K10

set_option Elab.async false
set_option linter.all false
set_option maxRecDepth 100000
set_option maxHeartbeats 4000000
namespace K10
open PySem PySem.Spec PyProof.Rows L2 MyR SlX OwnR OwnF
/-- an int of at most sixty digits -/
def Sho (i : Int) : Prop := i.natAbs < 10 ^ 60
theorem Same.rf (H : Hp) : Same H H := fun _ _ h => h
@[elab_as_elim] theorem gen_upd {G : Hp → Prop} (H : Hp) (p : Addr) (o : HO) (n : H p = none) (h : ∀ H', Same H H' → H' p = some o → G H') : G (upd H p o) := h _ (same_upd0 n) upd_same
section
variable {P : Program} {w : World} {K : PySem.W.Frag} {mg : Str → Option Value} {base : Heap}
def spWhole : Sp := fun vs H Q _ => ∃ i : Int, vs = [.int i] ∧ Q (.bl true) H
theorem ok_is_whole (T : Facts K mg) : FnOk P w K mg base CX0 1 T.f_is_whole T.fd_is_whole ["value"] spWhole := by
  refine T.F_is_whole.ok sc_is_whole (fun vs H Q E h => ?_) (fun cdv A outer s H vs Q E hr h => ?_)
  · obtain ⟨i, rfl, _⟩ := h
    rfl
  · obtain ⟨i, rfl, q⟩ := h
    refine ⟨_, (PSs.nox (pss_one (ps_ret (pe_and (pe_callB call_isi (by rfl) T.z_isinstance (by decide +kernel) (pa_cons (pv 0) (pa_cons (pe_bltn (v := .ty "int") (by rfl) T.z_int (by decide +kernel) rfl) pa_nil))) (pe_one (pe_not (pe_callB call_isi (by rfl) T.z_isinstance (by decide +kernel) (pa_cons (pv 0) (pa_cons (pe_bltn (v := .ty "bool") (by rfl) T.z_bool (by decide +kernel) rfl) pa_nil))))))))), ?_⟩
    refine ⟨_, rfl, .int i, .ty "int", .type "int", .type "int", true, rfl, .ty "int", .base (.int i), kit_ty (show kitB "int" "int" = some true by decide +kernel), true, rfl, iteT ?_⟩
    exact ⟨_, rfl, .int i, .ty "bool", .type "int", .type "bool", false, rfl, .ty "bool", .base (.int i), kit_ty (show kitB "int" "bool" = some false by decide +kernel), false, rfl, q⟩
def spShort : Sp := fun vs H Q _ => ∃ i : Int, vs = [.int i] ∧ Sho i ∧ Q (.bl true) H
theorem ok_is_short (T : Facts K mg) : FnOk P w K mg base CX0 2 T.f_is_short T.fd_is_short ["value"] spShort := by
  have G_is_whole : FnOk P w K mg base CX0 1 T.f_is_whole T.fd_is_whole ["value"] spWhole := ok_is_whole T
  refine T.F_is_short.ok sc_is_short (fun vs H Q E h => ?_) (fun cdv A outer s H vs Q E hr h => ?_)
  · obtain ⟨i, rfl, _⟩ := h
    rfl
  · obtain ⟨i, rfl, hi, q⟩ := h
    have e60 : (10 : Nat) ^ 60 = 1000000000000000000000000000000000000000000000000000000000000 := by decide
    unfold Sho at hi
    rw [e60] at hi
    refine ⟨_, (PSs.nox (pss_one (ps_ret (pe_and (pe_call G_is_whole hr (by rfl) T.g_is_whole T.F_is_whole.kp T.b_is_whole .nil pass0 (pa_cons (pv 0) pa_nil)) (pe_one (pe_chain op_lt op_lt (pe_un un_neg (pe_glob (v := .int 1000000000000000000000000000000000000000000000000000000000000) (by rfl) T.c_GREATEST.choose_spec ⟨_, rfl⟩)) (pv 0) (pe_glob (v := .int 1000000000000000000000000000000000000000000000000000000000000) (by rfl) T.c_GREATEST.choose_spec ⟨_, rfl⟩))))))), ?_⟩
    refine ⟨_, rfl, i, rfl, true, rfl, iteT ⟨_, rfl, _, rfl, _, i, rfl, rfl, true, ?_, iteT ⟨i, _, rfl, rfl, ?_⟩⟩⟩
    · show V.bl (decide (-1000000000000000000000000000000000000000000000000000000000000 < i)) = V.bl true
      rw [decide_eq_true (by omega)]
    · show Q (V.bl (decide (i < 1000000000000000000000000000000000000000000000000000000000000))) H
      rw [decide_eq_true (by omega)]
      exact q
def spReqShort : Sp := fun vs H Q _ => ∃ i : Int, vs = [.int i] ∧ Sho i ∧ Q .non H
theorem ok_require_short (T : Facts K mg) : FnOk P w K mg base CX0 3 T.f_require_short T.fd_require_short ["value"] spReqShort := by
  have G_is_short : FnOk P w K mg base CX0 2 T.f_is_short T.fd_is_short ["value"] spShort := ok_is_short T
  refine T.F_require_short.ok sc_require_short (fun vs H Q E h => ?_) (fun cdv A outer s H vs Q E hr h => ?_)
  · obtain ⟨i, rfl, _⟩ := h
    rfl
  · obtain ⟨i, rfl, hs, q⟩ := h
    refine ⟨_, (PSs.nox (pss_one (ps_if (pt_not (pt_val (pe_call G_is_short hr (by rfl) T.g_is_short T.F_is_short.kp T.b_is_short .nil pass0 (pa_cons (pv 0) pa_nil))))
      (pss_one ps_never)
      pss_nil))), ?_⟩
    exact ⟨_, rfl, i, rfl, hs, true, rfl, iteF q⟩
/-- a tuple of ints -/
abbrev tp (ns : List Int) : HO := .tup (ns.map V.int)
def spAreShort : Sp := fun vs H Q _ => ∃ (t : Addr) (ns : List Int), vs = [.ref t] ∧ H t = some (tp ns) ∧ ns.length ≤ 1000 ∧ (∀ x ∈ ns, Sho x) ∧ ∀ H', Same H H' → Q (.bl true) H'
theorem ok_are_short (T : Facts K mg) : FnOk P w K mg base CX0 3 T.f_are_short T.fd_are_short ["value"] spAreShort := by
  have G_is_short : FnOk P w K mg base CX0 2 T.f_is_short T.fd_is_short ["value"] spShort := ok_is_short T
  refine T.F_are_short.ok sc_are_short (fun vs H Q E h => ?_) (fun cdv A outer s H vs Q E hr h => ?_)
  · obtain ⟨t, ns, rfl, _⟩ := h
    rfl
  · obtain ⟨t, ns, rfl, ht, hl, hs, q⟩ := h
    refine ⟨_, (PSs.nox (pss_one (ps_ret (pe_and (pe_callB call_isi (by rfl) T.z_isinstance (by decide +kernel) (pa_cons (pv 0) (pa_cons (pe_bltn (v := .ty "tuple") (by rfl) T.z_tuple (by decide +kernel) rfl) pa_nil))) (pe_one (pe_callB (cr_all (by rfl)) (by rfl) T.z_all (by decide +kernel) (pa_cons (pe_lc (own := [("entry", 1)]) (g := (gName 1)) (tt := tYes) (by rfl) sc_are_short.nd (pi_tup (pv 0)) (blkOk_by (N := N_are_short) (sc := defScope s_are_short) (by decide +kernel)) (fun _ _ _ _ _ => (pg_name (i := 1) sc_are_short.nd rfl (.inl rfl))) (fun _ _ _ _ _ => pts_nil) (fun _ _ _ _ _ => (pe_call G_is_short hr (by rfl) T.g_is_short T.F_is_short.kp T.b_is_short .nil pass0 (pa_cons (pv 1) pa_nil)))) pa_nil))))))), ?_⟩
    refine ⟨_, rfl, .ref t, .ty "tuple", .type "tuple", .type "tuple", true, rfl, .ty "tuple", .base (.tup ht), kit_ty (show kitB "tuple" "tuple" = some true by decide +kernel), true, rfl, iteT ?_⟩
    refine ⟨_, rfl, t, rfl, ⟨_, SqT.of ht⟩, fun D hD => lc_tup (xs := ns.map V.int) (fun i H' => H' = upd H D (.lst (List.replicate i (V.bl true)))) rfl (fun i H' hi hP => ?_) (fun i x H' hi hP => ?_) (fun H' hP => ?_)⟩
    · rw [hP]
      exact SqT.of (same_upd0 hD _ _ ht)
    · subst hP
      rw [List.getElem?_map] at hi
      obtain ⟨y, hy, rfl⟩ := Option.map_eq_some_iff.mp hi
      have hlt : i < ns.length := (List.getElem?_eq_some_iff.mp hy).1
      refine ⟨rfl, ⟨_, rfl, y, rfl, hs y (List.mem_of_getElem? hy), _, upd_same, ?_, ?_⟩⟩
      · rw [List.length_replicate]
        exact small1000 (by omega)
      · rw [upd_upd, List.replicate_succ']
    · subst hP
      rw [List.length_map]
      refine ⟨D, List.replicate ns.length true, rfl, SqL.of (by rw [upd_same, List.map_replicate]), ?_⟩
      have e : (List.replicate ns.length true).all id = true := by
        rw [List.all_eq_true]
        intro x hx
        rw [(List.mem_replicate.mp hx).2]
        rfl
      rw [e]
      exact q _ (same_upd0 hD)
def spAreEntries : Sp := fun vs H Q _ => ∃ (t : Addr) (ns : List Int), vs = [.ref t] ∧ H t = some (tp ns) ∧ 1 ≤ ns.length ∧ ns.length ≤ 41 ∧ (∀ x ∈ ns, Sho x) ∧ ∀ H', Same H H' → Q (.bl true) H'
theorem ok_are_entries (T : Facts K mg) : FnOk P w K mg base CX0 4 T.f_are_entries T.fd_are_entries ["value"] spAreEntries := by
  have G_are_short : FnOk P w K mg base CX0 3 T.f_are_short T.fd_are_short ["value"] spAreShort := ok_are_short T
  refine T.F_are_entries.ok sc_are_entries (fun vs H Q E h => ?_) (fun cdv A outer s H vs Q E hr h => ?_)
  · obtain ⟨t, ns, rfl, _⟩ := h
    rfl
  · obtain ⟨t, ns, rfl, ht, h1, h41, hs, q⟩ := h
    refine ⟨_, (PSs.nox (pss_one (ps_ret (pe_and (pe_call G_are_short hr (by rfl) T.g_are_short T.F_are_short.kp T.b_are_short .nil pass0 (pa_cons (pv 0) pa_nil)) (pe_one (pe_chain op_le op_le pe_int (pe_callB call_len_seq (by rfl) T.z_len (by decide +kernel) (pa_cons (pv 0) pa_nil)) (pe_op op_add (pe_glob (v := .int 40) (by rfl) T.c_MAX_DEGREE.choose_spec ⟨_, rfl⟩) pe_int))))))), ?_⟩
    refine ⟨_, rfl, t, ns, rfl, ht, by omega, hs, fun H1 s1 => ⟨true, rfl, iteT ?_⟩⟩
    have ht1 := s1 _ _ ht
    refine ⟨_, rfl, t, _, rfl, .inr (SqT.of ht1), 1, _, rfl, rfl, true, ?_, iteT ⟨_, _, rfl, rfl, _, _, rfl, rfl, ?_⟩⟩
    · rw [List.length_map]
      show V.bl (decide ((1 : Int) ≤ (ns.length : Int))) = V.bl true
      rw [decide_eq_true (by omega)]
    · rw [List.length_map]
      show Q (V.bl (decide ((ns.length : Int) ≤ 40 + 1))) H1
      rw [decide_eq_true (by omega)]
      exact q H1 s1
/-! ### making a form -/
/-- a form with these entries -/
def Fo (C : Addr) (H : Hp) (a : Addr) (ns : List Int) : Prop := ∃ dx t, H a = some (SlO a C dx [some (.ref t)]) ∧ H dx = some (.xd []) ∧ H t = some (tp ns)
theorem Fo.same {C a : Addr} {H H' : Hp} {ns : List Int} (h : Fo C H a ns) (s : Same H H') : Fo C H' a ns := by
  obtain ⟨dx, t, h1, h2, h3⟩ := h
  exact ⟨dx, t, s _ _ h1, s _ _ h2, s _ _ h3⟩
theorem Fo.slt {C a : Addr} {H : Hp} {ns : List Int} (h : Fo C H a ns) : ∃ dx t, Slt H a C dx [some (.ref t)] ∧ H t = some (tp ns) := by
  obtain ⟨dx, t, h1, h2, h3⟩ := h
  exact ⟨dx, t, .inr ⟨h1, h2⟩, h3⟩
/-- Told(row) -/
def spTold (C : Addr) : Sp := fun vs H Q _ => ∃ (x dx : Addr) (v : V), vs = [.ref x, v] ∧ Slt H x C dx [] ∧ Q .non (slH H x C dx [some v])
theorem ok_Told_init (T : Facts K mg) : FnOk P w K mg base CX0 1 T.f_Told_init T.fd_Told_init ["self", "row"] (spTold T.C_Told) := by
  refine T.F_Told_init.ok sc_Told_init (fun vs H Q E h => ?_) (fun cdv A outer s H vs Q E hr h => ?_)
  · obtain ⟨x, dx, v, rfl, _⟩ := h
    rfl
  · obtain ⟨x, dx, v, rfl, hx, q⟩ := h
    refine ⟨_, (PSs.nox (pss_one (ps_sl (pv 0) (pv 1)))), ?_⟩
    exact ⟨_, rfl, _, rfl, x, T.C_Told, dx, T.a_own_row, [], 0, rfl, hx, T.oc_Told.scl, T.sl_own_row, q⟩
/-- Form(entries) -/
def spForm (CT CF : Addr) : Sp := fun vs H Q _ => ∃ (x dx y t : Addr), vs = [.ref x, .ref y] ∧ Slt H x CF dx [] ∧ ((∃ dy, Slt H y CT dy [some (.ref t)]) ∨ ∃ ns, y = t ∧ H t = some (tp ns) ∧ 1 ≤ ns.length ∧ ns.length ≤ 41 ∧ ∀ z ∈ ns, Sho z) ∧ ∀ H', Same H H' → Q .non (slH H' x CF dx [some (.ref t)])
theorem Slt.same {C a dx : Addr} {vs : List (Option V)} {H H' : Hp} (h : Slt H a C dx vs) (s : Same H H') : Slt H' a C dx vs := by
  rcases h with ⟨h1, h2⟩ | ⟨h1, h2⟩
  · exact .inl ⟨s _ _ h1, h2⟩
  · exact .inr ⟨s _ _ h1, s _ _ h2⟩
theorem ok_Form_init (T : Facts K mg) : FnOk P w K mg base CX0 5 T.f_Form_init T.fd_Form_init ["self", "entries"] (spForm T.C_Told T.C_Form) := by
  have G_are_entries : FnOk P w K mg base CX0 4 T.f_are_entries T.fd_are_entries ["value"] spAreEntries := ok_are_entries T
  refine T.F_Form_init.ok sc_Form_init (fun vs H Q E h => ?_) (fun cdv A outer s H vs Q E hr h => ?_)
  · obtain ⟨x, dx, y, t, rfl, _⟩ := h
    rfl
  · obtain ⟨x, dx, y, t, rfl, hx, hy, q⟩ := h
    refine ⟨_, (PSs.nox (pss_cons (ps_if (pw_and (pt_not (pt_val (pe_callB (call_isiF T.C_Told) (by rfl) T.z_isinstance (by decide +kernel) (pa_cons (pv 1) (pa_cons (pe_glob (v := .ref T.C_Told) (by rfl) T.g_Told rfl) pa_nil))))) (pw_and1 (pt_not (pt_val (pe_call G_are_entries hr (by rfl) T.g_are_entries T.F_are_entries.kp T.b_are_entries .nil pass0 (pa_cons (pv 1) pa_nil)))))).pt
      (pss_one ps_never)
      pss_nil)
    (pss_one (ps_sl (pv 0) (pe_ifExp (pt_val (pe_callB (call_isiF T.C_Told) (by rfl) T.z_isinstance (by decide +kernel) (pa_cons (pv 1) (pa_cons (pe_glob (v := .ref T.C_Told) (by rfl) T.g_Told rfl) pa_nil)))) (pe_sl (pv 1)) (pv 1)))))), ?_⟩
    rcases hy with ⟨dy, hy⟩ | ⟨ns, rfl, ht, h1, h41, hs⟩
    · refine ⟨_, rfl, .inr ⟨y, T.C_Told, dy, _, .ref T.C_Told, true, rfl, rfl, fun w r => r, hy, T.oc_Told.scl, T.oc_Told.sis, T.oc_Told.kself, true, rfl, iteF ?_⟩⟩
      refine ⟨_, rfl, .inr ⟨y, T.C_Told, dy, _, .ref T.C_Told, true, rfl, rfl, fun w r => r, hy, T.oc_Told.scl, T.oc_Told.sis, T.oc_Told.kself, true, rfl, iteT ?_⟩⟩
      refine ⟨_, rfl, y, T.C_Told, dy, T.a_own_row, _, 0, .ref t, rfl, hy, T.oc_Told.scl, T.sl_own_row, rfl, ?_⟩
      exact ⟨_, rfl, x, T.C_Form, dx, T.a_own_entries, [], 0, rfl, hx, T.oc_Form.scl, T.sl_own_entries, q H (Same.rf H)⟩
    · refine ⟨_, rfl, .inl ⟨.ref y, .ref T.C_Told, .type "tuple", .ref T.C_Told, false, rfl, .own _, .base (.tup ht), T.oc_Told.ktup, false, rfl, iteT ?_⟩⟩
      refine ⟨_, rfl, y, ns, rfl, ht, h1, h41, hs, fun H1 s1 => ⟨true, rfl, iteF ?_⟩⟩
      refine ⟨_, rfl, .inl ⟨.ref y, .ref T.C_Told, .type "tuple", .ref T.C_Told, false, rfl, .own _, .base (.tup (s1 _ _ ht)), T.oc_Told.ktup, false, rfl, iteF ?_⟩⟩
      exact ⟨_, rfl, _, rfl, x, T.C_Form, dx, T.a_own_entries, [], 0, rfl, Slt.same hx s1, T.oc_Form.scl, T.sl_own_entries, q H1 s1⟩
/-- what making leaves -/
theorem made {C x dx : Addr} {v : V} {H' H0 : Hp} (hx : H0 x = none) (hdx : H0 dx = none) (hne : dx ≠ x) (s : Same (upd (upd H0 dx (.own x)) x (.ins C dx [])) H') : Same H0 (slH H' x C dx [some v]) := fun b o e => by
  have h1 : b ≠ x := ne_of_none e hx
  have h2 : b ≠ dx := ne_of_none e hdx
  rw [slH_ne h1 h2]
  exact s _ _ (by rw [upd_ne h1, upd_ne h2]; exact e)
/-- what is made of a row -/
def spMake (C : Addr) : Sp := fun vs H Q _ => ∃ (t : Addr) (ns : List Int), vs = [.ref t] ∧ H t = some (tp ns) ∧ ∀ p H', Same H H' → H p = none → Fo C H' p ns → Q (.ref p) H'
theorem ok_form_of (T : Facts K mg) : FnOk P w K mg base CX0 7 T.f_form_of T.fd_form_of ["entries"] (spMake T.C_Form) := by
  have G_Told_init : FnOk P w K mg base CX0 1 T.f_Told_init T.fd_Told_init ["self", "row"] (spTold T.C_Told) := ok_Told_init T
  have G_Form_init : FnOk P w K mg base CX0 5 T.f_Form_init T.fd_Form_init ["self", "entries"] (spForm T.C_Told T.C_Form) := ok_Form_init T
  refine T.F_form_of.ok sc_form_of (fun vs H Q E h => ?_) (fun cdv A outer s H vs Q E hr h => ?_)
  · obtain ⟨t, ns, rfl, _⟩ := h
    rfl
  · obtain ⟨t, ns, rfl, ht, q⟩ := h
    refine ⟨_, (PSs.nox (pss_one (ps_ret (pe_make T.mk_Form G_Form_init (hr.mono (by decide)) (by rfl) T.g_Form T.b_Form_init .nil pass0 (pa_cons (pe_make T.mk_Told G_Told_init (hr.mono (by decide)) (by rfl) T.g_Told T.b_Told_init .nil pass0 (pa_cons (pv 0) pa_nil)) pa_nil))))), ?_⟩
    refine ⟨_, rfl, fun x dx hx hdx hne => ⟨x, dx, .ref t, rfl, .inl ⟨upd_same, rfl⟩, rfl, ?_⟩⟩
    have s1 : Same H (slH (upd (upd H dx (.own x)) x (.ins T.C_Told dx [])) x T.C_Told dx [some (.ref t)]) := made hx hdx hne (Same.rf _)
    have y1 : Slt (slH (upd (upd H dx (.own x)) x (.ins T.C_Told dx [])) x T.C_Told dx [some (.ref t)]) x T.C_Told dx [some (.ref t)] := slH_slt hne
    generalize slH (upd (upd H dx (.own x)) x (.ins T.C_Told dx [])) x T.C_Told dx [some (.ref t)] = H1 at s1 y1 ⊢
    refine fun x2 dx2 hx2 hdx2 hne2 => ⟨x2, dx2, x, t, rfl, .inl ⟨upd_same, rfl⟩, .inl ⟨dx, ?_⟩, fun H2 s2 => ⟨rfl, ?_⟩⟩
    · exact slt_upd (slt_upd y1 hdx2) (by rw [upd_ne (Ne.symm hne2)]; exact hx2)
    · have s3 : Same H1 (slH H2 x2 T.C_Form dx2 [some (.ref t)]) := made hx2 hdx2 hne2 s2
      have hx0 : H x2 = none := by
        cases e : H x2 with
        | none => rfl
        | some o =>
          have := s1 _ _ e
          rw [hx2] at this
          cases this
      refine q x2 _ (fun b o e => s3 _ _ (s1 _ _ e)) hx0 ⟨dx2, t, upd_same, ?_, s3 _ _ (s1 _ _ ht)⟩
      unfold slH
      rw [upd_ne hne2, upd_same]
end
end K10

set_option Elab.async false
set_option linter.all false
set_option maxRecDepth 100000
set_option maxHeartbeats 4000000
namespace K10
open PySem PySem.Spec PyProof.Rows L2 MyR SlX OwnR OwnF
theorem cv_snoc (x : Int) (g : Nat → Int) : ∀ (l : List Int) (k : Nat), cv (l ++ [x]) g k = cv l g k + (if l.length ≤ k then x * g (k - l.length) else 0)
  | [], k => by
    show cv (x :: []) g k = 0 + (if 0 ≤ k then x * g (k - 0) else 0)
    rw [if_pos (Nat.zero_le k), Nat.sub_zero]
    cases k with
    | zero => rw [cv_zero]; omega
    | succ k => rw [cv_succ]; show x * g (k + 1) + 0 = 0 + x * g (k + 1); omega
  | y :: ys, 0 => by
    show cv (y :: (ys ++ [x])) g 0 = cv (y :: ys) g 0 + (if ys.length + 1 ≤ 0 then _ else 0)
    rw [cv_zero, cv_zero, if_neg (by omega)]
    omega
  | y :: ys, k + 1 => by
    show cv (y :: (ys ++ [x])) g (k + 1) = cv (y :: ys) g (k + 1) + (if ys.length + 1 ≤ k + 1 then x * g (k + 1 - (ys.length + 1)) else 0)
    rw [cv_succ, cv_succ, cv_snoc x g ys k, Nat.add_sub_add_right]
    by_cases h : ys.length ≤ k
    · rw [if_pos h, if_pos (by omega)]; omega
    · rw [if_neg h, if_neg (by omega)]; omega
/-- the entries so far: i rows, and j places of the next one -/
def J (xs : List Int) (g : Nat → Int) (i j k : Nat) : Int := cv (xs.take i) g k + (if i ≤ k ∧ k < i + j then co xs i * g (k - i) else 0)
theorem J_0 {xs : List Int} {g : Nat → Int} {i k : Nat} : J xs g i 0 k = cv (xs.take i) g k := by
  unfold J
  rw [if_neg (by omega)]
  omega
theorem J_step {xs : List Int} {g : Nat → Int} {i j k : Nat} : (if k = i + j then J xs g i j (i + j) + co xs i * g j else J xs g i j k) = J xs g i (j + 1) k := by
  unfold J
  by_cases h : k = i + j
  · subst h
    rw [if_pos rfl, if_neg (by omega), if_pos (by omega), Nat.add_sub_cancel_left]
    omega
  · rw [if_neg h]
    by_cases c : i ≤ k ∧ k < i + j
    · rw [if_pos c, if_pos (by omega)]
    · rw [if_neg c, if_neg (by omega)]
theorem J_end {xs ys : List Int} {i k : Nat} (hi : i < xs.length) : J xs (co ys) i ys.length k = cv (xs.take (i + 1)) (co ys) k := by
  unfold J
  have e : xs.take (i + 1) = xs.take i ++ [xs[i]] := by rw [List.take_add_one, List.getElem?_eq_getElem hi]; rfl
  have hl : (xs.take i).length = i := by rw [List.length_take]; omega
  rw [e, cv_snoc, hl, co_get hi]
  congr 1
  by_cases c : i ≤ k
  · by_cases d : k < i + ys.length
    · rw [if_pos ⟨c, d⟩, if_pos c]
    · rw [if_neg (by omega), if_pos c, co_far (by omega), Int.mul_zero]
  · rw [if_neg (by omega), if_neg c]
def tab (L : Nat) (f : Nat → Int) : List V := (List.range L).map fun k => V.int (f k)
theorem tab_tb (L : Nat) (f : Nat → Int) : tab L f = (tb L f).map V.int := by
  unfold tab tb
  rw [List.map_map]
  rfl
theorem tab_len (L : Nat) (f : Nat → Int) : (tab L f).length = L := by
  unfold tab
  rw [List.length_map, List.length_range]
theorem tab_get {L : Nat} {f : Nat → Int} {k : Nat} (h : k < L) : (tab L f)[k]? = some (.int (f k)) := by
  unfold tab
  rw [List.getElem?_map, List.getElem?_range h]
  rfl
theorem tab_ext {L : Nat} {f g : Nat → Int} (h : ∀ k, k < L → f k = g k) : tab L f = tab L g := by
  unfold tab
  exact List.map_congr_left fun k hk => by rw [h k (List.mem_range.mp hk)]
theorem tab_none {L : Nat} {f : Nat → Int} {k : Nat} (h : L ≤ k) : (tab L f)[k]? = none := List.getElem?_eq_none (by rw [tab_len]; exact h)
theorem tab_set {L : Nat} {f : Nat → Int} {j : Nat} {v : Int} : (tab L f).set j (.int v) = tab L (fun k => if k = j then v else f k) := by
  apply List.ext_getElem?
  intro k
  by_cases hk : k < L
  · rw [tab_get hk]
    by_cases e : k = j
    · subst e
      rw [List.getElem?_set_self (by rw [tab_len]; exact hk), if_pos rfl]
    · rw [List.getElem?_set_ne (Ne.symm e), tab_get hk, if_neg e]
  · rw [tab_none (Nat.le_of_not_lt hk), List.getElem?_eq_none (by rw [List.length_set, tab_len]; exact Nat.le_of_not_lt hk)]
theorem tab_rep (n : Nat) : List.replicate n (V.int 0) = tab n fun _ => 0 := by
  unfold tab
  rw [List.map_const', List.length_range]
theorem ix_at {n : Nat} {z : Int} {j : Nat} (e : z = (j : Int)) (h : j < n) : ixN n z = some j := by
  rw [e]
  exact Evl.ixN_nat h
theorem at_of {xs : List V} {z : Int} {j : Nat} {v : V} (e : z = (j : Int)) (h : xs[j]? = some v) : atI xs z = some v := by
  rw [e]
  exact atI_nat h
/-- ints of less than 400 bits -/
def sm (x : Int) : Prop := x.natAbs < 2 ^ 400
theorem sm_mul {x y : Int} (hx : sm x) (hy : sm y) : CMulW x y := wide_mul hx hy (by decide) (by decide) (by decide)
theorem get_int {xs : List Int} {i : Nat} (h : i < xs.length) : (xs.map V.int)[i]? = some (.int (co xs i)) := by
  rw [List.getElem?_map, List.getElem?_eq_getElem h, co_get h]
  rfl
theorem sm_co {xs : List Int} {i : Nat} (h : ∀ x ∈ xs, sm x) (hi : i < xs.length) : sm (co xs i) := by
  rw [co_get hi]
  exact h _ (List.getElem_mem hi)
section
variable {P : Program} {w : World} {K : PySem.W.Frag} {mg : Str → Option Value} {base : Heap}
def spJoin (K : PySem.W.Frag) : Sp := fun vs H Q _ => ∃ (a b : Addr) (xs ys : List Int), vs = [.ref a, .ref b] ∧ H a = some (tp xs) ∧ H b = some (tp ys) ∧ xs ≠ [] ∧ ys ≠ [] ∧ xs.length ≤ 100 ∧ ys.length ≤ 100 ∧ (∀ x ∈ xs, sm x) ∧ (∀ x ∈ ys, sm x) ∧ ∀ p H', Same H H' → H p = none → H' p = some (tp (ml xs ys)) → Q (.ref p) H'
theorem ok_joined_entries (T : Facts K mg) : FnOk P w K mg base CX0 1 T.f_joined_entries T.fd_joined_entries ["one", "other"] (spJoin K) := by
  refine T.F_joined_entries.ok sc_joined_entries (fun vs H Q E h => ?_) (fun cdv A outer s H vs Q E hr h => ?_)
  · obtain ⟨a, b, xs, ys, rfl, _⟩ := h
    rfl
  · obtain ⟨a, b, xs, ys, rfl, ha, hb, nx, ny, lx, ly, hx, hy, q⟩ := h
    have px : 0 < xs.length := List.length_pos_iff.mpr nx
    have py : 0 < ys.length := List.length_pos_iff.mpr ny
    refine ⟨_, (PSs.nox (pss_cons (ps_setLc (i := 2) (own := [("place", 3)]) (g := (gName 3)) (tt := tYes) rfl sc_joined_entries.nd rfl rfl (sw_true rfl rfl rfl (by decide +kernel)) (pi_range1 (by rfl) T.z_range (pa_cons (pe_op op_sub (pe_op op_add (pe_callB call_len_seq (by rfl) T.z_len (by decide +kernel) (pa_cons (pv 0) pa_nil)) (pe_callB call_len_seq (by rfl) T.z_len (by decide +kernel) (pa_cons (pv 1) pa_nil))) pe_int) pa_nil)) (blkOk_by (N := N_joined_entries) (sc := defScope s_joined_entries) (by decide +kernel)) (fun _ _ _ _ _ => (pg_name (i := 3) sc_joined_entries.nd rfl (.inl rfl))) (fun _ _ _ _ _ => pts_nil) (fun _ _ _ _ _ => pe_int))
    (pss_cons (ps_for PassesOwn.never (by rfl) (pi_range1 (by rfl) T.z_range (pa_cons (pe_callB call_len_seq (by rfl) T.z_len (by decide +kernel) (pa_cons (pv 0) pa_nil)) pa_nil)) (pg_name (i := 4) sc_joined_entries.nd rfl (.inl rfl))
      (pss_one (ps_for PassesOwn.never (by rfl) (pi_range1 (by rfl) T.z_range (pa_cons (pe_callB call_len_seq (by rfl) T.z_len (by decide +kernel) (pa_cons (pv 1) pa_nil)) pa_nil)) (pg_name (i := 3) sc_joined_entries.nd rfl (.inl rfl))
        (pss_one (ps_asg (pe_op op_add (pe_ix ix_list (pv 2) (pe_op op_add (pv 4) (pv 3)) (fun _ _ => rfl)) (pe_op op_mulW (pe_ix ix_tup (pv 0) (pv 4) (fun _ _ => rfl)) (pe_ix ix_tup (pv 1) (pv 3) (fun _ _ => rfl)))) (pg_sub (pv 2) (pe_op op_add (pv 4) (pv 3)) set_list))))))
    (pss_one (ps_ret (pe_tupleOf (by rfl) T.z_tuple (pv 2))))))), ?_⟩
    refine ⟨_, rfl, a, _, rfl, .inr (SqT.of ha), _, rfl, b, _, rfl, .inr (SqT.of hb), ?_⟩
    rw [List.length_map, List.length_map]
    obtain ⟨N, hN⟩ : ∃ N, N = xs.length + ys.length - 1 := ⟨_, rfl⟩
    have eN : (((xs.length : Int) + (ys.length : Int) - 1)).toNat = N := by omega
    refine ⟨_, _, rfl, rfl, _, _, rfl, rfl, _, rfl, (by show -(2 ^ 62) ≤ (xs.length : Int) + (ys.length : Int) - 1; omega), (by show (xs.length : Int) + (ys.length : Int) - 1 < 2 ^ 62; omega), fun D hD => lc_range (n := _) (fun j H' => H' = upd H D (.lst (List.replicate j (V.int 0)))) rfl (fun j H' hj hP => ?_) (fun H' hP => ?_)⟩
    · subst hP
      have hj2 : j < N := by rw [← eN]; exact hj
      refine ⟨rfl, ⟨_, upd_same, ?_, ?_⟩⟩
      · rw [List.length_replicate]
        exact small1000 (by omega)
      · rw [upd_upd, List.replicate_succ']
    · subst hP
      show _
      rw [show List.replicate (((xs.length : Int) + (ys.length : Int) - 1)).toNat (V.int 0) = tab N (fun k => cv (xs.take 0) (co ys) k) by rw [eN, tab_rep]; rfl]
      have sD : ∀ o, Same H (upd H D o) := fun o => same_upd0 hD
      refine ⟨_, rfl, a, _, rfl, .inr (SqT.of (sD _ _ _ ha)), ?_⟩
      rw [List.length_map]
      refine ⟨xs.length, rfl, by omega, by omega, for_range (n := (xs.length : Int).toNat) (fun i σ H' => ∃ y3 y4, σ = [some (.ref a), some (.ref b), some (.ref D), y3, y4] ∧ H' = upd H D (.lst (tab N fun k => cv (xs.take i) (co ys) k))) ⟨none, none, rfl, rfl⟩ (fun i σ H' hi hP => ?_) (fun σ H' hP => ?_)⟩
      · obtain ⟨y3, y4, rfl, rfl⟩ := hP
        have hi2 : i < xs.length := by omega
        refine ⟨_, rfl, b, _, rfl, .inr (SqT.of (sD _ _ _ hb)), ?_⟩
        rw [List.length_map, tab_ext (g := J xs (co ys) i 0) fun k hk => J_0.symm]
        refine ⟨ys.length, rfl, by omega, by omega, for_range (n := (ys.length : Int).toNat) (fun j σ H' => ∃ y3, σ = [some (.ref a), some (.ref b), some (.ref D), y3, some (.int (0 + (i : Int)))] ∧ H' = upd H D (.lst (tab N (J xs (co ys) i j)))) ⟨y3, rfl, rfl⟩ (fun j σ H' hj hP => ?_) (fun σ H' hP => ?_)⟩
        · obtain ⟨y3, rfl, rfl⟩ := hP
          have hj2 : j < ys.length := by omega
          have e1 : (0 : Int) + (i : Int) + (0 + (j : Int)) = ((i + j : Nat) : Int) := by omega
          have e2 : (0 : Int) + (i : Int) = ((i : Nat) : Int) := by omega
          have e3 : (0 : Int) + (j : Int) = ((j : Nat) : Int) := by omega
          refine ⟨_, rfl, _, rfl, _, rfl, _, _, rfl, rfl, D, _, _, _, rfl, rfl, SqL.of upd_same, at_of e1 (tab_get (by omega)), _, rfl, _, rfl, a, _, _, _, rfl, rfl, SqT.of (sD _ _ _ ha), at_of e2 (get_int hi2), _, rfl, _, rfl, b, _, _, _, rfl, rfl, SqT.of (sD _ _ _ hb), at_of e3 (get_int hj2), _, _, rfl, rfl, sm_mul (sm_co hx hi2) (sm_co hy hj2), _, _, rfl, rfl, ?_⟩
          refine ⟨_, rfl, _, rfl, _, rfl, _, _, rfl, rfl, D, _, _, (i + j), rfl, rfl, upd_same, ?_, ?_⟩
          · rw [tab_len]
            exact ix_at e1 (by omega)
          · refine ⟨_, rfl, ?_⟩
            rw [upd_upd]
            show upd H D (.lst ((tab N (J xs (co ys) i j)).set (i + j) (.int (J xs (co ys) i j (i + j) + co xs i * co ys j)))) = _
            rw [tab_set, tab_ext fun k hk => J_step]
        · obtain ⟨y3, rfl, rfl⟩ := hP
          refine ⟨_, _, rfl, ?_⟩
          rw [Int.toNat_natCast, tab_ext fun k hk => J_end hi2]
      · obtain ⟨y3, y4, rfl, rfl⟩ := hP
        rw [Int.toNat_natCast, List.take_length, tab_tb]
        refine ⟨_, rfl, ?_⟩
        refine .inl ⟨D, _, rfl, SqL.of upd_same, fun p hp => ?_⟩
        refine q p _ ((sD _).trans (same_upd0 hp)) (Same.free (sD _) hp) ?_
        rw [upd_same, hN]
        rfl
end
end K10

set_option Elab.async false
set_option linter.all false
set_option maxRecDepth 100000
set_option maxHeartbeats 4000000
namespace K10
open PySem PySem.Spec PyProof.Rows L2 StX RZ MyR SlX OwnR OwnF
/-- a comprehension over zip of two tuples of one length -/
theorem lc_zipT {K : PySem.W.Frag} {a b : Addr} {xs ys : List V} {g : TG} {tt : TT} {te : TE} {vs : List Nat} {σ : L2.St} {H1 : Hp} {D : Addr} {Qd : Hp → Prop} (hl : xs.length = ys.length) (Pv : Nat → Hp → Prop) (h0 : Pv 0 (upd H1 D (.lst []))) (hq : ∀ i H, i ≤ xs.length → Pv i H → SqT K H a xs ∧ SqT K H b ys)
    (hs : ∀ (i : Nat) (x y : V) (T : Addr) (H : Hp), xs[i]? = some x → ys[i]? = some y → Pv i H → H T = none → g (.ref T) (wipe σ vs) (upd H T (.tup [x, y])) fun σ2 H2 => wipe σ2 vs = wipe σ vs ∧ tt σ2 H2 fun b H3 =>
      if b = true then te σ2 H3 fun y H4 => ∃ acc, H4 D = some (.lst acc) ∧ acc.length < sizeLine ∧ Pv (i + 1) (upd H4 D (.lst (acc ++ [y]))) else Pv (i + 1) H3) (hd : ∀ H, Pv xs.length H → Qd H) :
    ∃ W : Nat → Nat → Hp → Prop, (∃ m, W 0 m (upd H1 D (.lst []))) ∧ ∀ i m H, W i m H →
      ((ItzT K a b).stop i H ∧ Qd H) ∨ ((ItzT K a b).go i H ∧ ∃ Nx : Hp → Prop, (∀ H', Nx H' → ∃ m', m' < m ∧ W (i + 1) m' H') ∧ ∀ x H', (ItzT K a b).yld i H x H' → g x (wipe σ vs) H' fun σ2 H2 => wipe σ2 vs = wipe σ vs ∧ tt σ2 H2 fun b H3 =>
        if b = true then te σ2 H3 fun y H4 => ∃ acc, H4 D = some (.lst acc) ∧ acc.length < sizeLine ∧ Nx (upd H4 D (.lst (acc ++ [y]))) else Nx H3) := by
  refine ⟨fun i m H => m = xs.length - i ∧ i ≤ xs.length ∧ Pv i H, ⟨xs.length, by simp, Nat.zero_le _, h0⟩, ?_⟩
  rintro i m H ⟨rfl, hi, p⟩
  obtain ⟨qx, qy⟩ := hq i H hi p
  by_cases hlt : i < xs.length
  · have hlt2 : i < ys.length := by omega
    have hx : xs[i]? = some xs[i] := List.getElem?_eq_getElem hlt
    have hy : ys[i]? = some ys[i] := List.getElem?_eq_getElem hlt2
    refine .inr ⟨⟨xs, ys, _, _, qx, qy, hx, hy⟩, Pv (i + 1), fun H' p' => ⟨xs.length - (i + 1), by omega, rfl, hlt, p'⟩, fun v H' y => ?_⟩
    obtain ⟨T, x', y', rfl, hT, rfl, f1, f2⟩ := y
    exact hs i x' y' T H (f1 xs qx) (f2 ys qy) p hT
  · have e : i = xs.length := by omega
    subst e
    exact .inl ⟨⟨xs, ys, qx, qy, Or.inl (Nat.le_refl _)⟩, hd H p⟩
/-- the sign of the first entry that is not 0 -/
def sg : List Int → Int
  | [] => 1
  | x :: xs => if x = 0 then sg xs else if 0 < x then 1 else -1
theorem sg_cases : ∀ l : List Int, sg l = 1 ∨ sg l = -1
  | [] => .inl rfl
  | x :: xs => by
    unfold sg
    split
    · exact sg_cases xs
    · split
      · exact .inl rfl
      · exact .inr rfl
def part (l : List Int) : Int := (cont l : Int) * sg l
theorem part_abs (l : List Int) : (part l).natAbs = cont l := by
  unfold part
  rw [Int.natAbs_mul]
  rcases sg_cases l with e | e <;> rw [e] <;> simp
theorem sm_cont {l : List Int} (h : ∀ x ∈ l, sm x) : cont l < 2 ^ 400 := by
  by_cases c : ∃ x ∈ l, x ≠ 0
  · obtain ⟨x, hx, h0⟩ := c
    have h1 := Int.natAbs_dvd_natAbs.mpr (cont_dvd l x hx)
    have h2 := Nat.le_of_dvd (Int.natAbs_pos.mpr h0) h1
    exact Nat.lt_of_le_of_lt h2 (h x hx)
  · have hz : ∀ l : List Int, (∀ x ∈ l, x = 0) → cont l = 0 := by
      intro l
      induction l with
      | nil => intro _; rfl
      | cons y ys ih =>
        intro hl
        show Nat.gcd y.natAbs (cont ys) = 0
        rw [ih fun x hx => hl x (List.mem_cons_of_mem _ hx), hl y List.mem_cons_self]
        rfl
    rw [hz l fun x hx => Classical.byContradiction fun q => c ⟨x, hx, q⟩]
    decide
theorem sm_part {l : List Int} (h : ∀ x ∈ l, sm x) : sm (part l) := by
  show (part l).natAbs < _
  rw [part_abs]
  exact sm_cont h
/-- divided by its content, the first entry that is not 0 above 0 -/
def prim (l : List Int) : List Int := if part l = 0 then l else l.map fun x => x.fdiv (part l)
theorem tb_map (f : Int → Int) (l : List Int) : (tb l.length fun k => f (co l k)) = l.map f := by
  conv => rhs; rw [← tb_co l]
  unfold tb
  rw [List.map_map]
  rfl
section
variable {P : Program} {w : World} {K : PySem.W.Frag} {mg : Str → Option Value} {base : Heap}
def spZero : Sp := fun vs H Q _ => ∃ (t : Addr) (ns : List Int), vs = [.ref t] ∧ H t = some (tp ns) ∧ Q (.bl (!ns.any (· != 0))) H
theorem ok_is_zero_in (T : Facts K mg) : FnOk P w K mg base CX0 1 T.f_is_zero_in T.fd_is_zero_in ["entries"] spZero := by
  refine T.F_is_zero_in.ok sc_is_zero_in (fun vs H Q E h => ?_) (fun cdv A outer s H vs Q E hr h => ?_)
  · obtain ⟨t, ns, rfl, _⟩ := h
    rfl
  · obtain ⟨t, ns, rfl, ht, q⟩ := h
    refine ⟨_, (PSs.nox (pss_one (ps_ret (pe_not (pe_callB (cr_anyTI (by rfl)) (by rfl) T.z_any (by decide +kernel) (pa_cons (pv 0) pa_nil)))))), ?_⟩
    exact ⟨_, rfl, t, ns, rfl, SqT.of ht, _, rfl, q⟩
def spPrim : Sp := fun vs H Q _ => ∃ (t : Addr) (ns : List Int), vs = [.ref t] ∧ H t = some (tp ns) ∧ ns.length ≤ 1000 ∧ (∀ x ∈ ns, sm x) ∧ ∀ p H', Same H H' → H' p = some (tp (prim ns)) → Q (.ref p) H'
/-- the sum of one row and a multiple of the other -/
def zs (c : Int) (xs ys : List Int) : List Int := List.zipWith (fun x y => x + c * y) xs ys
def spSum (C : Addr) : Sp := fun vs H Q _ => ∃ (a b : Addr) (xs ys : List Int) (c : Int), vs = [.ref a, .ref b, .int c] ∧ Fo C H a xs ∧ Fo C H b ys ∧ xs.length = ys.length ∧ xs.length ≤ 1000 ∧ sm c ∧ (∀ x ∈ ys, sm x) ∧ ∀ p H', Same H H' → H' p = some (tp (zs c xs ys)) → Q (.ref p) H'
theorem ok_sum_in (T : Facts K mg) : FnOk P w K mg base CX0 1 T.f_sum_in T.fd_sum_in ["one", "other", "sign"] (spSum T.C_Form) := by
  refine T.F_sum_in.ok sc_sum_in (fun vs H Q E h => ?_) (fun cdv A outer s H vs Q E hr h => ?_)
  · obtain ⟨a, b, xs, ys, c, rfl, _⟩ := h
    rfl
  · obtain ⟨a, b, xs, ys, c, rfl, fa, fb, hl, hlt, sc, sy, q⟩ := h
    obtain ⟨dx, t, ha, ht⟩ := fa.slt
    obtain ⟨dy, u, hb, hu⟩ := fb.slt
    refine ⟨_, (PSs.nox (pss_cons (ps_if (pt_cmpR op_ne (pe_callB call_len_seq (by rfl) T.z_len (by decide +kernel) (pa_cons (pe_sl (pv 0)) pa_nil)) (pe_callB call_len_seq (by rfl) T.z_len (by decide +kernel) (pa_cons (pe_sl (pv 1)) pa_nil)) (nomark _))
      (pss_one ps_never)
      pss_nil)
    (pss_one (ps_ret (pe_tupleOf (by rfl) T.z_tuple (pe_lc (own := [("first", 3), ("second", 4)]) (g := (gTup K 2 (gCons (gName 3) (gCons (gName 4) gNil)))) (tt := tYes) (by rfl) sc_sum_in.nd (pi_zipA (by rfl) T.z_zip (pa_cons (pe_sl (pv 0)) (pa_cons (pe_sl (pv 1)) pa_nil))) (blkOk_by (N := N_sum_in) (sc := defScope s_sum_in) (by decide +kernel)) (fun _ _ _ _ _ => (pg_tup (by rfl) (pgs_cons (pg_name (i := 3) sc_sum_in.nd rfl (.inl rfl)) (pgs_cons (pg_name (i := 4) sc_sum_in.nd rfl (.inl rfl)) pgs_nil)))) (fun _ _ _ _ _ => pts_nil) (fun _ _ _ _ _ => (pe_op op_add (pv 3) (pe_op op_mulW (pv 2) (pv 4)))))))))), ?_⟩
    refine ⟨_, rfl, a, T.C_Form, dx, T.a_own_entries, _, 0, .ref t, rfl, ha, T.oc_Form.scl, T.sl_own_entries, rfl, t, _, rfl, .inr (SqT.of ht), ?_⟩
    refine ⟨_, rfl, b, T.C_Form, dy, T.a_own_entries, _, 0, .ref u, rfl, hb, T.oc_Form.scl, T.sl_own_entries, rfl, u, _, rfl, .inr (SqT.of hu), rfl, _, rfl, ?_⟩
    rw [List.length_map, List.length_map, decide_eq_true (show V.int (xs.length : Int) = V.int (ys.length : Int) by rw [hl])]
    refine iteF ?_
    refine ⟨_, rfl, a, T.C_Form, dx, T.a_own_entries, _, 0, .ref t, rfl, ha, T.oc_Form.scl, T.sl_own_entries, rfl, _, rfl, b, T.C_Form, dy, T.a_own_entries, _, 0, .ref u, rfl, hb, T.oc_Form.scl, T.sl_own_entries, rfl, t, u, _, _, rfl, .inr ⟨SqT.of ht, SqT.of hu, fun D hD => ?_⟩⟩
    refine lc_zipT (xs := xs.map V.int) (ys := ys.map V.int) (by rw [List.length_map, List.length_map, hl]) (fun j H' => Same H H' ∧ H' D = some (.lst (tab j fun k => co xs k + c * co ys k))) ⟨same_upd0 hD, upd_same⟩ (fun j H' _ hP => ⟨SqT.of (hP.1 _ _ ht), SqT.of (hP.1 _ _ hu)⟩) (fun j x y T H' hx hy hP hT => ?_) (fun H' hP => ?_)
    · obtain ⟨sH, hD'⟩ := hP
      have hj : j < xs.length := by
        have := (List.getElem?_eq_some_iff.mp hx).1
        rw [List.length_map] at this
        exact this
      rw [get_int hj] at hx
      rw [get_int (by omega)] at hy
      cases hx
      cases hy
      have nTD : D ≠ T := fun e => by
        rw [e, hT] at hD'
        cases hD'
      have sT := same_upd0 (o := .tup [.int (co xs j), .int (co ys j)]) hT
      refine ⟨T, _, rfl, SqT.of upd_same, rfl, _, _, rfl, _, _, rfl, rfl, rfl, _, rfl, _, rfl, _, rfl, _, _, rfl, rfl, sm_mul sc (sm_co sy (by omega)), _, _, rfl, rfl, _, sT _ _ hD', ?_, fun b o e => ?_, ?_⟩
      · rw [tab_len]
        exact small1000 (by omega)
      · rw [upd_ne (ne_of_none e hD)]
        exact sT _ _ (sH _ _ e)
      · rw [upd_same]
        unfold tab
        rw [List.range_succ, List.map_append]
        rfl
    · obtain ⟨sH, hD'⟩ := hP
      rw [List.length_map] at hD'
      refine .inl ⟨D, _, rfl, SqL.of hD', fun p hp2 => ?_⟩
      refine q p _ (sH.trans (same_upd0 hp2)) ?_
      rw [upd_same, tab_tb]
      show some (HO.tup _) = some (HO.tup _)
      rw [show (tb xs.length fun k => co xs k + c * co ys k) = zs c xs ys from ?_]
      refine co_inj (by rw [tb_len]; unfold zs; rw [List.length_zipWith, hl, Nat.min_self]) fun k => ?_
      rw [co_tb]
      unfold zs
      by_cases hk : k < xs.length
      · rw [if_pos hk, co_get (l := List.zipWith _ _ _) (by rw [List.length_zipWith]; omega), List.getElem_zipWith, co_get hk, co_get (by omega)]
      · rw [if_neg hk, co_far (by rw [List.length_zipWith]; omega)]
end
end K10

set_option Elab.async false
set_option linter.all false
set_option maxRecDepth 100000
set_option maxHeartbeats 4000000
namespace K10
open PySem PySem.Spec PyProof.Rows L2 StX RZ MyR SlX OwnR OwnF
/-! ### == of tuples of ints -/
theorem dpAll_ints {K : PySem.W.Frag} {H : Hp} : ∀ ns : List Int, DpAll K H (ns.map V.int) (ns.map PyData.int)
  | [] => .nil
  | n :: r => .cons (.int n) (dpAll_ints r)
theorem lay_ints : ∀ ns : List Int, PyData.canLayAll0 (ns.map PyData.int) = true
  | [] => rfl
  | n :: r => by
    show (PyData.canLay0 (.int n) && PyData.canLayAll0 (r.map PyData.int)) = true
    rw [lay_ints r]
    rfl
theorem depth_ints : ∀ ns : List Int, PyData.depthAll (ns.map PyData.int) = 0
  | [] => rfl
  | n :: r => by
    show max (PyData.depth (.int n)) (PyData.depthAll (r.map PyData.int)) = 0
    rw [depth_ints r]
    rfl
theorem shaped_tints (ns : List Int) : SeqAt.shaped (.tuple (ns.map PyData.int)) = true := by
  unfold SeqAt.shaped
  rw [show PyData.canLay0 (.tuple (ns.map PyData.int)) = PyData.canLayAll0 (ns.map PyData.int) from rfl, lay_ints]
  rw [show PyData.depth (.tuple (ns.map PyData.int)) = PyData.depthAll (ns.map PyData.int) + 1 from rfl, depth_ints]
  rfl
/-! ### the properties, the operators -/
section
variable {P : Program} {w : World} {K : PySem.W.Frag} {mg : Str → Option Value} {base : Heap}
def spEnt (C : Addr) : Sp := fun vs H Q _ => ∃ (a : Addr) (ns : List Int), vs = [.ref a] ∧ Fo C H a ns ∧ ∀ t, H t = some (tp ns) → Q (.ref t) H
theorem ok_Form_entries (T : Facts K mg) : FnOk P w K mg base CX0 1 T.f_Form_entries T.fd_Form_entries ["self"] (spEnt T.C_Form) := by
  refine T.F_Form_entries.ok sc_Form_entries (fun vs H Q E h => ?_) (fun cdv A outer s H vs Q E hr h => ?_)
  · obtain ⟨a, ns, rfl, _⟩ := h
    rfl
  · obtain ⟨a, ns, rfl, fa, q⟩ := h
    obtain ⟨dx, t, ha, ht⟩ := fa.slt
    refine ⟨_, (PSs.nox (pss_one (ps_ret (pe_sl (pv 0))))), ?_⟩
    exact ⟨_, rfl, a, T.C_Form, dx, T.a_own_entries, _, 0, .ref t, rfl, ha, T.oc_Form.scl, T.sl_own_entries, rfl, q t ht⟩
def spDeg (C : Addr) : Sp := fun vs H Q _ => ∃ (a : Addr) (ns : List Int), vs = [.ref a] ∧ Fo C H a ns ∧ Q (.int ((ns.length : Int) - 1)) H
theorem ok_Form_degree (T : Facts K mg) : FnOk P w K mg base CX0 1 T.f_Form_degree T.fd_Form_degree ["self"] (spDeg T.C_Form) := by
  refine T.F_Form_degree.ok sc_Form_degree (fun vs H Q E h => ?_) (fun cdv A outer s H vs Q E hr h => ?_)
  · obtain ⟨a, ns, rfl, _⟩ := h
    rfl
  · obtain ⟨a, ns, rfl, fa, q⟩ := h
    obtain ⟨dx, t, ha, ht⟩ := fa.slt
    refine ⟨_, (PSs.nox (pss_one (ps_ret (pe_op op_sub (pe_callB call_len_seq (by rfl) T.z_len (by decide +kernel) (pa_cons (pe_sl (pv 0)) pa_nil)) pe_int)))), ?_⟩
    refine ⟨_, rfl, a, T.C_Form, dx, T.a_own_entries, _, 0, .ref t, rfl, ha, T.oc_Form.scl, T.sl_own_entries, rfl, t, _, rfl, .inr (SqT.of ht), _, _, rfl, rfl, ?_⟩
    rw [List.length_map]
    exact q
def spIsZ (C : Addr) : Sp := fun vs H Q _ => ∃ (a : Addr) (ns : List Int), vs = [.ref a] ∧ Fo C H a ns ∧ Q (.bl (!ns.any (· != 0))) H
theorem ok_Form_is_zero (T : Facts K mg) : FnOk P w K mg base CX0 2 T.f_Form_is_zero T.fd_Form_is_zero ["self"] (spIsZ T.C_Form) := by
  have G_is_zero_in : FnOk P w K mg base CX0 1 T.f_is_zero_in T.fd_is_zero_in ["entries"] spZero := ok_is_zero_in T
  refine T.F_Form_is_zero.ok sc_Form_is_zero (fun vs H Q E h => ?_) (fun cdv A outer s H vs Q E hr h => ?_)
  · obtain ⟨a, ns, rfl, _⟩ := h
    rfl
  · obtain ⟨a, ns, rfl, fa, q⟩ := h
    obtain ⟨dx, t, ha, ht⟩ := fa.slt
    refine ⟨_, (PSs.nox (pss_one (ps_ret (pe_call G_is_zero_in hr (by rfl) T.g_is_zero_in T.F_is_zero_in.kp T.b_is_zero_in .nil pass0 (pa_cons (pe_sl (pv 0)) pa_nil))))), ?_⟩
    exact ⟨_, rfl, a, T.C_Form, dx, T.a_own_entries, _, 0, .ref t, rfl, ha, T.oc_Form.scl, T.sl_own_entries, rfl, t, ns, rfl, ht, q⟩
/-- what is asked of a form's row -/
structure Rw (ns : List Int) : Prop where
  ne : ns ≠ []
  len : ns.length ≤ 100
  sm : ∀ x ∈ ns, sm x
/-- isinstance(x, Form), x a form -/
theorem isi_form {X : Cx} {C b dy : Addr} {vs : List (Option V)} {H : Hp} {Q : VK} (c : OC X.K C) (hb : Slt H b C dy vs) (q : Q (.bl true) H) : rIsi X.K [.ref b, .ref C] H Q ∨ rIsiSl X.K (.ref C) [.ref b, .ref C] H Q :=
  .inr ⟨b, C, dy, vs, .ref C, true, rfl, rfl, fun w r => r, hb, c.scl, c.sis, c.kself, q⟩
def spAdd (C : Addr) (k : Int) : Sp := fun vs H Q _ => ∃ (a b : Addr) (xs ys : List Int), vs = [.ref a, .ref b] ∧ Fo C H a xs ∧ Fo C H b ys ∧ xs.length = ys.length ∧ Rw ys ∧ ∀ p H', Same H H' → Fo C H' p (zs k xs ys) → Q (.ref p) H'
theorem ok_Form_add (T : Facts K mg) : FnOk P w K mg base CX0 8 T.f_Form_add T.fd_Form_add ["self", "other"] (spAdd T.C_Form 1) := by
  have G_sum_in : FnOk P w K mg base CX0 1 T.f_sum_in T.fd_sum_in ["one", "other", "sign"] (spSum T.C_Form) := ok_sum_in T
  have G_form_of : FnOk P w K mg base CX0 7 T.f_form_of T.fd_form_of ["entries"] (spMake T.C_Form) := ok_form_of T
  refine T.F_Form_add.ok sc_Form_add (fun vs H Q E h => ?_) (fun cdv A outer s H vs Q E hr h => ?_)
  · obtain ⟨a, b, xs, ys, rfl, _⟩ := h
    rfl
  · obtain ⟨a, b, xs, ys, rfl, fa, fb, hl, r, q⟩ := h
    obtain ⟨dy, u, hb, hu⟩ := fb.slt
    refine ⟨_, (PSs.nox (pss_cons (ps_if (pt_not (pt_val (pe_callB (call_isiF T.C_Form) (by rfl) T.z_isinstance (by decide +kernel) (pa_cons (pv 1) (pa_cons (pe_glob (v := .ref T.C_Form) (by rfl) T.g_Form rfl) pa_nil)))))
      (pss_one ps_never)
      pss_nil)
    (pss_one (ps_ret (pe_call G_form_of hr (by rfl) T.g_form_of T.F_form_of.kp T.b_form_of .nil pass0 (pa_cons (pe_call G_sum_in (hr.mono (by decide)) (by rfl) T.g_sum_in T.F_sum_in.kp T.b_sum_in .nil pass0 (pa_cons (pv 0) (pa_cons (pv 1) (pa_cons pe_int pa_nil)))) pa_nil)))))), ?_⟩
    refine ⟨_, rfl, isi_form (X := (cxOf CX0 P w K mg base N_Form_add (Str.ofString "Form.__add__") (defScope s_Form_add) T.f_Form_add cdv A outer s H E).nox) T.oc_Form hb ⟨true, rfl, iteF ?_⟩⟩
    exact ⟨_, rfl, _, rfl, a, b, xs, ys, 1, rfl, fa, fb, hl, by have := r.len; omega, (by show (1 : Nat) < 2 ^ 400; decide), r.sm, fun p H' s hp => ⟨p, _, rfl, hp, fun p2 H2 s2 n2 f2 => q p2 H2 (s.trans s2) f2⟩⟩
end
end K10

set_option Elab.async false
set_option linter.all false
set_option maxRecDepth 100000
set_option maxHeartbeats 4000000
namespace K10
open PySem PySem.Spec PyProof.Rows L2 StX RZ MyR SlX OwnR OwnF
theorem eqvAll_ints : ∀ xs ys : List Int, PyData.eqvAll (xs.map PyData.int) (ys.map PyData.int) = decide (xs = ys)
  | [], [] => rfl
  | [], _ :: _ => rfl
  | _ :: _, [] => rfl
  | x :: xs, y :: ys => by
    show (PyData.eqv (.int x) (.int y) && PyData.eqvAll (xs.map PyData.int) (ys.map PyData.int)) = _
    rw [eqvAll_ints xs ys]
    show ((x == y) && decide (xs = ys)) = decide (x :: xs = y :: ys)
    by_cases h : x = y
    · by_cases k : xs = ys
      · subst h k
        simp
      · rw [decide_eq_false k, decide_eq_false fun z => k (List.cons.inj z).2, Bool.and_false]
    · rw [decide_eq_false fun z => h (List.cons.inj z).1, beq_eq_false_iff_ne.mpr h, Bool.false_and]
theorem eqv_ints (xs ys : List Int) : PyData.eqv (.tuple (xs.map PyData.int)) (.tuple (ys.map PyData.int)) = decide (xs = ys) := eqvAll_ints xs ys
theorem eq_ints {K : PySem.W.Frag} {H : Hp} {a b : Addr} {xs ys : List Int} {Q : VK} (ha : SqT K H a (xs.map V.int)) (hb : SqT K H b (ys.map V.int)) (q : Q (.bl (decide (xs = ys))) H) : rEqD K (.ref a) (.ref b) H Q := by
  refine ⟨_, _, .tup ha (dpAll_ints xs), .tup hb (dpAll_ints ys), shaped_tints xs, shaped_tints ys, ?_⟩
  rw [eqv_ints]
  exact q
theorem ne_ints {K : PySem.W.Frag} {H : Hp} {a b : Addr} {xs ys : List Int} {Q : VK} (ha : SqT K H a (xs.map V.int)) (hb : SqT K H b (ys.map V.int)) (q : Q (.bl (!decide (xs = ys))) H) : rNeD K (.ref a) (.ref b) H Q := by
  refine ⟨_, _, .tup ha (dpAll_ints xs), .tup hb (dpAll_ints ys), shaped_tints xs, shaped_tints ys, ?_⟩
  rw [eqv_ints]
  exact q
section
variable {P : Program} {w : World} {K : PySem.W.Frag} {mg : Str → Option Value} {base : Heap}
def spMul (C : Addr) : Sp := fun vs H Q _ => ∃ (a : Addr) (xs : List Int) (v : V), vs = [.ref a, v] ∧ Fo C H a xs ∧ Rw xs ∧
  ((∃ (b : Addr) (ys : List Int), v = .ref b ∧ Fo C H b ys ∧ Rw ys ∧ xs.length + ys.length ≤ 42 ∧ ∀ p H', Same H H' → Fo C H' p (ml xs ys) → Q (.ref p) H') ∨
   (∃ c : Int, v = .int c ∧ Sho c ∧ ∀ p H', Same H H' → Fo C H' p (xs.map fun x => x * c) → Q (.ref p) H'))
theorem ok_Form_mul (T : Facts K mg) : FnOk P w K mg base CX0 8 T.f_Form_mul T.fd_Form_mul ["self", "other"] (spMul T.C_Form) := by
  have G_is_whole : FnOk P w K mg base CX0 1 T.f_is_whole T.fd_is_whole ["value"] spWhole := ok_is_whole T
  have G_require_short : FnOk P w K mg base CX0 3 T.f_require_short T.fd_require_short ["value"] spReqShort := ok_require_short T
  have G_joined_entries : FnOk P w K mg base CX0 1 T.f_joined_entries T.fd_joined_entries ["one", "other"] (spJoin K) := ok_joined_entries T
  have G_Form_degree : FnOk P w K mg base CX0 1 T.f_Form_degree T.fd_Form_degree ["self"] (spDeg T.C_Form) := ok_Form_degree T
  have G_form_of : FnOk P w K mg base CX0 7 T.f_form_of T.fd_form_of ["entries"] (spMake T.C_Form) := ok_form_of T
  refine T.F_Form_mul.ok sc_Form_mul (fun vs H Q E h => ?_) (fun cdv A outer s H vs Q E hr h => ?_)
  · obtain ⟨a, xs, v, rfl, _⟩ := h
    rfl
  · obtain ⟨a, xs, v, rfl, fa, r, h⟩ := h
    obtain ⟨dx, t, ha, ht⟩ := fa.slt
    refine ⟨_, (PSs.nox (pss_cons (ps_if (pt_val (pe_callB (call_isiF T.C_Form) (by rfl) T.z_isinstance (by decide +kernel) (pa_cons (pv 1) (pa_cons (pe_glob (v := .ref T.C_Form) (by rfl) T.g_Form rfl) pa_nil))))
      (pss_cons (ps_if (pt_cmpR op_gt (pe_op op_add (pe_prp (pv 0) T.oc_Form T.pr_Form_degree G_Form_degree T.b_Form_degree (hr.mono (by decide))) (pe_prp (pv 1) T.oc_Form T.pr_Form_degree G_Form_degree T.b_Form_degree (hr.mono (by decide)))) (pe_glob (v := .int 40) (by rfl) T.c_MAX_DEGREE.choose_spec ⟨_, rfl⟩) (nomark _))
        (pss_one ps_never)
        pss_nil)
      (pss_one (ps_ret (pe_call G_form_of hr (by rfl) T.g_form_of T.F_form_of.kp T.b_form_of .nil pass0 (pa_cons (pe_call G_joined_entries (hr.mono (by decide)) (by rfl) T.g_joined_entries T.F_joined_entries.kp T.b_joined_entries .nil pass0 (pa_cons (pe_sl (pv 0)) (pa_cons (pe_sl (pv 1)) pa_nil))) pa_nil)))))
      pss_nil)
    (pss_cons (ps_if (pt_not (pt_val (pe_call G_is_whole (hr.mono (by decide)) (by rfl) T.g_is_whole T.F_is_whole.kp T.b_is_whole .nil pass0 (pa_cons (pv 1) pa_nil))))
      (pss_one ps_never)
      pss_nil)
    (pss_cons (ps_expr (pe_call G_require_short (hr.mono (by decide)) (by rfl) T.g_require_short T.F_require_short.kp T.b_require_short .nil pass0 (pa_cons (pv 1) pa_nil)))
    (pss_one (ps_ret (pe_call G_form_of hr (by rfl) T.g_form_of T.F_form_of.kp T.b_form_of .nil pass0 (pa_cons (pe_tupleOf (by rfl) T.z_tuple (pe_lc (own := [("entry", 2)]) (g := (gName 2)) (tt := tYes) (by rfl) sc_Form_mul.nd (pi_tup (pe_sl (pv 0))) (blkOk_by (N := N_Form_mul) (sc := defScope s_Form_mul) (by decide +kernel)) (fun _ _ _ _ _ => (pg_name (i := 2) sc_Form_mul.nd rfl (.inl rfl))) (fun _ _ _ _ _ => pts_nil) (fun _ _ _ _ _ => (pe_op op_mulW (pv 2) (pv 1))))) pa_nil)))))))), ?_⟩
    rcases h with ⟨b, ys, rfl, fb, r2, hl, q⟩ | ⟨c, rfl, hc, q⟩
    · obtain ⟨dy, u, hb, hu⟩ := fb.slt
      refine ⟨_, rfl, isi_form (X := (cxOf CX0 P w K mg base N_Form_mul (Str.ofString "Form.__mul__") (defScope s_Form_mul) T.f_Form_mul cdv A outer s H E).nox) T.oc_Form hb ⟨true, rfl, iteT ?_⟩⟩
      refine ⟨_, rfl, a, dx, _, rfl, ha, a, xs, rfl, fa, _, rfl, b, dy, _, rfl, hb, b, ys, rfl, fb, _, _, rfl, rfl, _, _, rfl, rfl, _, rfl, ?_⟩
      rw [decide_eq_false (show ¬ (40 : Int) < (xs.length : Int) - 1 + ((ys.length : Int) - 1) by omega)]
      refine iteF ⟨_, rfl, a, T.C_Form, dx, T.a_own_entries, _, 0, .ref t, rfl, ha, T.oc_Form.scl, T.sl_own_entries, rfl, _, rfl, b, T.C_Form, dy, T.a_own_entries, _, 0, .ref u, rfl, hb, T.oc_Form.scl, T.sl_own_entries, rfl, t, u, xs, ys, rfl, ht, hu, r.ne, r2.ne, r.len, r2.len, r.sm, r2.sm, fun p H' s _ hp => ?_⟩
      exact ⟨p, _, rfl, hp, fun p2 H2 s2 n2 f2 => q p2 H2 (s.trans s2) f2⟩
    · refine ⟨_, rfl, .inl ⟨.int c, .ref T.C_Form, .type "int", .ref T.C_Form, false, rfl, .own _, .base (.int c), T.oc_Form.kint, false, rfl, iteF ?_⟩⟩
      refine ⟨_, rfl, c, rfl, true, rfl, iteF ⟨_, rfl, c, rfl, hc, ?_⟩⟩
      have smc : sm c := Nat.lt_trans hc (by decide)
      refine ⟨_, rfl, a, T.C_Form, dx, T.a_own_entries, _, 0, .ref t, rfl, ha, T.oc_Form.scl, T.sl_own_entries, rfl, t, rfl, ⟨_, SqT.of ht⟩, fun D hD => lc_tup (xs := xs.map V.int) (fun j H' => H' = upd H D (.lst (tab j fun k => co xs k * c))) rfl (fun j H' _ hP => ?_) (fun j x H' hx hP => ?_) (fun H' hP => ?_)⟩
      · rw [hP]
        exact SqT.of (same_upd0 hD _ _ ht)
      · subst hP
        have hj : j < xs.length := by
          have := (List.getElem?_eq_some_iff.mp hx).1
          rw [List.length_map] at this
          exact this
        rw [get_int hj] at hx
        cases hx
        have := r.len
        refine ⟨rfl, ⟨_, rfl, _, rfl, _, _, rfl, rfl, sm_mul (sm_co r.sm hj) smc, _, upd_same, ?_, ?_⟩⟩
        · rw [tab_len]
          exact small1000 (by omega)
        · rw [upd_upd]
          unfold tab
          rw [List.range_succ, List.map_append]
          rfl
      · subst hP
        rw [List.length_map, tab_tb, tb_map (fun x => x * c) xs]
        refine .inl ⟨D, _, rfl, SqL.of upd_same, fun p hp2 => ?_⟩
        exact ⟨p, _, rfl, upd_same, fun p2 H2 s2 n2 f2 => q p2 H2 ((same_upd0 hD).trans ((same_upd0 hp2).trans s2)) f2⟩
/-- == : with a form, with a tuple -/
def spEqF (C : Addr) : Sp := fun vs H Q _ => ∃ (a : Addr) (xs : List Int) (b : Addr), vs = [.ref a, .ref b] ∧ Fo C H a xs ∧
  ((∃ ys, Fo C H b ys ∧ Q (.bl (decide (xs = ys))) H) ∨ (∃ ys, H b = some (tp ys) ∧ Q (.bl false) H))
theorem ok_Form_eq (T : Facts K mg) : FnOk P w K mg base CX0 1 T.f_Form_eq T.fd_Form_eq ["self", "other"] (spEqF T.C_Form) := by
  refine T.F_Form_eq.ok sc_Form_eq (fun vs H Q E h => ?_) (fun cdv A outer s H vs Q E hr h => ?_)
  · obtain ⟨a, xs, b, rfl, _⟩ := h
    rfl
  · obtain ⟨a, xs, b, rfl, fa, h⟩ := h
    obtain ⟨dx, t, ha, ht⟩ := fa.slt
    refine ⟨_, (PSs.nox (pss_one (ps_ret (pe_and (pe_callB (call_isiF T.C_Form) (by rfl) T.z_isinstance (by decide +kernel) (pa_cons (pv 1) (pa_cons (pe_glob (v := .ref T.C_Form) (by rfl) T.g_Form rfl) pa_nil))) (pe_one (pe_cmpR (op_eqD (hu64 hr)) (pe_sl (pv 0)) (pe_sl (pv 1)) (nomark _))))))), ?_⟩
    rcases h with ⟨ys, fb, q⟩ | ⟨ys, hb, q⟩
    · obtain ⟨dy, u, hb, hu⟩ := fb.slt
      refine ⟨_, rfl, isi_form (X := (cxOf CX0 P w K mg base N_Form_eq (Str.ofString "Form.__eq__") (defScope s_Form_eq) T.f_Form_eq cdv A outer s H E).nox) T.oc_Form hb ⟨true, rfl, iteT ?_⟩⟩
      exact ⟨_, rfl, a, T.C_Form, dx, T.a_own_entries, _, 0, .ref t, rfl, ha, T.oc_Form.scl, T.sl_own_entries, rfl, _, rfl, b, T.C_Form, dy, T.a_own_entries, _, 0, .ref u, rfl, hb, T.oc_Form.scl, T.sl_own_entries, rfl, eq_ints (SqT.of ht) (SqT.of hu) q⟩
    · exact ⟨_, rfl, .inl ⟨.ref b, .ref T.C_Form, .type "tuple", .ref T.C_Form, false, rfl, .own _, .base (.tup hb), T.oc_Form.ktup, false, rfl, iteF q⟩⟩
end
end K10

set_option Elab.async false
set_option linter.all false
set_option maxRecDepth 100000
set_option maxHeartbeats 4000000
namespace K10
open PySem PySem.Spec PyProof.Rows L2 StX RZ MyR SlX OwnR OwnF
abbrev dice (x y z : Int) : HO := .lst [.int x, .int y, .int z]
/-- all but the dice is as it was -/
def Sx (a : Addr) (H H' : Hp) : Prop := ∀ b o, b ≠ a → H b = some o → H' b = some o
def Dc (H : Hp) (a : Addr) : Prop := ∃ x y z, H a = some (dice x y z)
theorem Sx.refl (a : Addr) (H : Hp) : Sx a H H := fun _ _ _ h => h
theorem Sx.trans {a : Addr} {H H1 H2 : Hp} (s : Sx a H H1) (t : Sx a H1 H2) : Sx a H H2 := fun b o n h => t b o n (s b o n h)
theorem Sx.of {a : Addr} {H H' : Hp} (s : Same H H') : Sx a H H' := fun b o _ h => s b o h
theorem Sx.upd {a : Addr} {H : Hp} {o : HO} : Sx a H (upd H a o) := fun b u n h => by
  rw [upd_ne n]
  exact h
theorem Dc.same {a : Addr} {H H' : Hp} (d : Dc H a) (s : Same H H') : Dc H' a := by
  obtain ⟨x, y, z, e⟩ := d
  exact ⟨x, y, z, s _ _ e⟩
theorem Dc.ne {a p : Addr} {H : Hp} (d : Dc H a) (n : H p = none) : p ≠ a := fun e => by
  obtain ⟨x, y, z, h⟩ := d
  rw [e, h] at n
  cases n
theorem Sx.free {a p : Addr} {H H' : Hp} (s : Sx a H H') (n : H' p = none) (ne : p ≠ a) : H p = none := by
  cases q : H p with
  | none => rfl
  | some o =>
    rw [s p o ne q] at n
    cases n
theorem script_Sx {K : PySem.W.Frag} {d a : Addr} {H H' : Hp} {o : HO} {xs : List V} (s : Sx d (upd H d o) H') (n : H d = none) (h : SqL K H a xs) : SqL K H' a xs := by
  rcases h with (h | ⟨u, h⟩) | h
  · have ne : a ≠ d := ne_of_none h n
    exact .inl (.inl (s a _ ne (by rw [upd_ne ne]; exact h)))
  · have ne : a ≠ d := ne_of_none h n
    exact .inl (.inr ⟨u, s a _ ne (by rw [upd_ne ne]; exact h)⟩)
  · exact .inr h
section
variable {P : Program} {w : World} {K : PySem.W.Frag} {mg : Str → Option Value} {base : Heap}
theorem cp16 : CPow 10 16 := ⟨by decide, by decide, by decide⟩
theorem cp60 : CPow 10 60 := ⟨by decide, by decide, by decide⟩
theorem cw60 : CMulW (10 ^ Int.toNat 60) (10 ^ Int.toNat 60) := by
  unfold CMulW
  decide +kernel
theorem pos60 : (0 : Int) < 10 ^ Int.toNat 60 * 10 ^ Int.toNat 60 := by decide +kernel
theorem pos_m : (0 : Int) < 1152921504606846697 := by decide
theorem sz3 : 3 ≤ sizeLine := by decide
def spDice (K : PySem.W.Frag) : Sp := fun vs H Q _ => ∃ (a : Addr) (ns : List Int) (k : Nat), vs = [.ref a, .int k] ∧ SqL K H a (ns.map V.int) ∧ ∀ p x y z, H p = none → Q (.ref p) (upd H p (dice x y z))
theorem ok_law_dice (T : Facts K mg) : FnOk P w K mg base CX0 1 T.f_law_dice T.fd_law_dice ["_law_script", "_law_spot"] (spDice K) := by
  refine T.F_law_dice.ok sc_law_dice (fun vs H Q E h => ?_) (fun cdv A outer s H vs Q E hr h => ?_)
  · obtain ⟨a, ns, k, rfl, _⟩ := h
    rfl
  · obtain ⟨a, ns, k, rfl, hS, q⟩ := h
    refine ⟨_, (PSs.nox (pss_cons (ps_set (i := 2) sc_law_dice.nd rfl (.inl rfl) (pe_ifExp (pt_cmpR op_lt (pv 1) (pe_callB call_len_seq (by rfl) T.z_len (by decide +kernel) (pa_cons (pv 0) pa_nil)) (nomark _)) (pe_callTy call_int1 (by rfl) T.z_int (by decide +kernel) (pa_cons (pe_ix ix_list (pv 0) (pv 1) (fun _ _ => rfl)) pa_nil)) (pe_op op_add (pe_op op_mul pe_int (pv 1)) pe_int)))
    (pss_cons (ps_set (i := 3) sc_law_dice.nd rfl (.inl rfl) (pe_op op_mod (pe_callB (call_max2 (by rfl)) (by rfl) T.z_max (by decide +kernel) (pa_cons pe_int (pa_cons (pe_op op_sub (pe_callB call_abs (by rfl) T.z_abs (by decide +kernel) (pa_cons (pv 2) pa_nil)) (pe_op op_pow pe_int pe_int)) pa_nil))) (pe_op op_mulW (pe_op op_pow pe_int pe_int) (pe_op op_pow pe_int pe_int))))
    (pss_one (ps_ret (pe_lst (pa_cons (pv 3) (pa_cons (pe_op op_add (pe_op op_add (pe_op op_add (pe_op op_mul (pe_op op_mod (pe_callB call_abs (by rfl) T.z_abs (by decide +kernel) (pa_cons (pv 2) pa_nil)) pe_int) pe_int) (pe_op op_mul pe_int (pv 1))) (pe_op op_mul pe_int (pe_callTy call_int1 (by rfl) T.z_int (by decide +kernel) (pa_cons (pe_cmpR op_lt (pv 2) pe_int (nomark _)) pa_nil)))) pe_int) (pa_cons pe_int pa_nil))))))))), ?_⟩
    refine ⟨.int k, rfl, .ref a, rfl, a, ns.map V.int, rfl, .inl hS, k, _, rfl, rfl, _, rfl, ?_⟩
    rw [List.length_map]
    by_cases h1 : (k : Int) < (ns.length : Int)
    · rw [decide_eq_true h1]
      have hj : k < ns.length := by omega
      refine iteT ⟨.ref a, rfl, .int k, rfl, a, ns.map V.int, k, .int ns[k], rfl, rfl, hS, atI_nat (by rw [List.getElem?_map, List.getElem?_eq_getElem hj]; rfl), .inl ⟨_, rfl, ?_⟩⟩
      refine ⟨.int ns[k], rfl, _, rfl, 10, 16, rfl, rfl, cp16, _, _, rfl, rfl, 0, _, rfl, 10, 60, rfl, rfl, cp60, 10, 60, rfl, rfl, cp60, _, _, rfl, rfl, cw60, _, _, rfl, rfl, pos60, ?_⟩
      refine ⟨_, rfl, .int ns[k], rfl, _, rfl, _, _, rfl, rfl, pos_m, _, _, rfl, rfl, .inr ⟨by decide, by decide⟩, .int k, rfl, _, _, rfl, rfl, .inl ⟨by decide, by decide⟩, _, _, rfl, rfl, .int ns[k], rfl, _, _, rfl, rfl, .inr ⟨_, rfl, _, _, rfl, rfl, .inl ⟨by decide, by decide⟩, _, _, rfl, rfl, _, _, rfl, rfl, ?_⟩⟩
      exact ⟨sz3, fun p hp => q p _ _ _ hp⟩
    · rw [decide_eq_false h1]
      refine iteF ⟨.int k, rfl, _, _, rfl, rfl, .inl ⟨by decide, by decide⟩, _, _, rfl, rfl, ?_⟩
      refine ⟨_, rfl, _, rfl, 10, 16, rfl, rfl, cp16, _, _, rfl, rfl, 0, _, rfl, 10, 60, rfl, rfl, cp60, 10, 60, rfl, rfl, cp60, _, _, rfl, rfl, cw60, _, _, rfl, rfl, pos60, ?_⟩
      refine ⟨_, rfl, _, rfl, _, rfl, _, _, rfl, rfl, pos_m, _, _, rfl, rfl, .inr ⟨by decide, by decide⟩, .int k, rfl, _, _, rfl, rfl, .inl ⟨by decide, by decide⟩, _, _, rfl, rfl, _, rfl, _, _, rfl, rfl, .inr ⟨_, rfl, _, _, rfl, rfl, .inl ⟨by decide, by decide⟩, _, _, rfl, rfl, _, _, rfl, rfl, ?_⟩⟩
      exact ⟨sz3, fun p hp => q p _ _ _ hp⟩
def spRoll : Sp := fun vs H Q _ => ∃ (a : Addr) (x y z n : Int), vs = [.ref a, .int n] ∧ H a = some (dice x y z) ∧ 0 < n ∧ n.natAbs.log2 < 9000 ∧ ∀ r x' z', 0 ≤ r → r < n → Q (.int r) (upd H a (dice x' y z'))
theorem ok_law_roll (T : Facts K mg) : FnOk P w K mg base CX0 1 T.f_law_roll T.fd_law_roll ["_law_dice_here", "_law_total"] spRoll := by
  refine T.F_law_roll.ok sc_law_roll (fun vs H Q E h => ?_) (fun cdv A outer s H vs Q E hr h => ?_)
  · obtain ⟨a, x, y, z, n, rfl, _⟩ := h
    rfl
  · obtain ⟨a, x, y, z, n, rfl, hd, h0, h1, q⟩ := h
    have hS : SqL K H a [.int x, .int y, .int z] := SqL.of hd
    refine ⟨_, (PSs.nox (pss_cons (ps_if (pt_cmpR op_gt (pe_ix ix_list (pv 0) pe_int (fun _ _ => rfl)) pe_int (nomark _))
      (pss_cons (ps_set (i := 2) sc_law_roll.nd rfl (.inl rfl) (pe_op op_mod (pe_callTy call_int1 (by rfl) T.z_int (by decide +kernel) (pa_cons (pe_ix ix_list (pv 0) pe_int (fun _ _ => rfl)) pa_nil)) (pv 1)))
      (pss_cons (ps_asg (pe_op op_fdivW (pe_ix ix_list (pv 0) pe_int (fun _ _ => rfl)) (pv 1)) (pg_sub (pv 0) pe_int set_list))
      (pss_one (ps_ret (pv 2)))))
      pss_nil)
    (pss_cons (ps_asg (pe_op op_add (pe_ix ix_list (pv 0) pe_int (fun _ _ => rfl)) pe_int) (pg_sub (pv 0) pe_int set_list))
    (pss_cons (ps_set (i := 3) sc_law_roll.nd rfl (.inl rfl) (pe_op op_mod (pe_callTy call_int1 (by rfl) T.z_int (by decide +kernel) (pa_cons (pe_op op_add (pe_ix ix_list (pv 0) pe_int (fun _ _ => rfl)) (pe_op op_mul pe_int (pe_ix ix_list (pv 0) pe_int (fun _ _ => rfl)))) pa_nil)) pe_int))
    (pss_cons (ps_set (i := 4) sc_law_roll.nd rfl (.inl rfl) (pe_op op_add (pe_op op_mul (pe_op op_mod (pe_callTy call_int1 (by rfl) T.z_int (by decide +kernel) (pa_cons (pe_op op_add (pe_op op_mul (pv 3) (pv 3)) (pe_op op_mul pe_int (pe_ix ix_list (pv 0) pe_int (fun _ _ => rfl)))) pa_nil)) pe_int) pe_int) (pv 3)))
    (pss_one (ps_ret (pe_op op_mod (pe_callTy call_int1 (by rfl) T.z_int (by decide +kernel) (pa_cons (pe_op op_fdivW (pv 4) pe_int) pa_nil)) (pv 1))))))))), ?_⟩
    refine ⟨.ref a, rfl, a, _, 0, .int x, rfl, rfl, hS, atI_nat (j := 0) rfl, x, 0, rfl, rfl, decide (0 < x), rfl, ite2 (fun _ => ?_) (fun _ => ?_)⟩
    · refine ⟨.ref a, rfl, a, _, 0, .int x, rfl, rfl, hS, atI_nat (j := 0) rfl, .inl ⟨x, rfl, .int n, rfl, x, n, rfl, rfl, h0, ?_⟩⟩
      refine ⟨.ref a, rfl, a, _, 0, .int x, rfl, rfl, hS, atI_nat (j := 0) rfl, .int n, rfl, x, n, rfl, rfl, ⟨h0, h1⟩, ?_⟩
      refine ⟨.ref a, rfl, a, _, 0, 0, rfl, rfl, hd, rfl, ?_⟩
      exact ⟨_, rfl, q (x % n) (x / n) z (Int.emod_nonneg _ (by omega)) (Int.emod_lt_of_pos _ h0)⟩
    · refine ⟨.ref a, rfl, a, _, 2, .int z, rfl, rfl, hS, atI_nat (j := 2) rfl, z, 1, rfl, rfl, ?_⟩
      refine ⟨.ref a, rfl, a, _, 2, 2, rfl, rfl, hd, rfl, ?_⟩
      have hd' : (upd H a (dice x y (z + 1))) a = some (dice x y (z + 1)) := upd_same
      have hS' : SqL K (upd H a (dice x y (z + 1))) a [.int x, .int y, .int (z + 1)] := SqL.of hd'
      refine ⟨.ref a, rfl, a, _, 1, .int y, rfl, rfl, hS', atI_nat (j := 1) rfl, .ref a, rfl, a, _, 2, .int (z + 1), rfl, rfl, hS', atI_nat (j := 2) rfl, _, _, rfl, rfl, .inl ⟨by decide, by decide⟩, _, _, rfl, rfl, .inl ⟨_, rfl, _, _, rfl, rfl, (by decide : (0 : Int) < 2305843009213691579), ?_⟩⟩
      have b0 := Int.emod_nonneg (y + 92821991 * (z + 1)) (show (2305843009213691579 : Int) ≠ 0 by decide)
      have b1 := Int.emod_lt_of_pos (y + 92821991 * (z + 1)) (show (0 : Int) < 2305843009213691579 by decide)
      refine ⟨_, rfl, _, rfl, _, _, rfl, rfl, .inl ⟨Int.lt_of_lt_of_le (by decide) b0, Int.lt_trans b1 (by decide)⟩, .ref a, rfl, a, _, 2, .int (z + 1), rfl, rfl, hS', atI_nat (j := 2) rfl, _, _, rfl, rfl, .inl ⟨by decide, by decide⟩, _, _, rfl, rfl, .inl ⟨_, rfl, _, _, rfl, rfl, (by decide : (0 : Int) < 2305843009213692227), _, _, rfl, rfl, .inr ⟨by decide, by decide⟩, _, rfl, _, _, rfl, rfl, ?_⟩⟩
      refine ⟨_, rfl, _, _, rfl, rfl, ⟨by decide, by decide +kernel⟩, .inl ⟨_, rfl, .int n, rfl, _, _, rfl, rfl, h0, ?_⟩⟩
      exact q _ x (z + 1) (Int.emod_nonneg _ (by omega)) (Int.emod_lt_of_pos _ h0)
def spRoll2 : Sp := fun vs H Q _ => ∃ (a : Addr) (n : Int), vs = [.ref a, .int n] ∧ Dc H a ∧ 0 < n ∧ n.natAbs.log2 < 9000 ∧ ∀ (r : Nat) H', (r : Int) < n → Sx a H H' → Dc H' a → Q (.int r) H'
theorem roll2 : ∀ vs H Q E, spRoll2 vs H Q E → spRoll vs H Q E := fun vs H Q E h => by
  obtain ⟨a, n, rfl, ⟨x, y, z, e⟩, h0, h1, q⟩ := h
  refine ⟨a, x, y, z, n, rfl, e, h0, h1, fun r x' z' r0 r1 => ?_⟩
  obtain ⟨j, rfl⟩ := Int.eq_ofNat_of_zero_le r0
  exact q j _ r1 Sx.upd ⟨x', y, z', upd_same⟩
def spNear : Sp := fun vs H Q _ => ∃ (a : Addr) (m : Int), vs = [.ref a, .int m] ∧ Dc H a ∧ 0 ≤ m ∧ m ≤ 10 ^ 15 ∧ ∀ r H', -m ≤ r → r ≤ m → Sx a H H' → Dc H' a → Q (.int r) H'
theorem ok_law_near (T : Facts K mg) : FnOk P w K mg base CX0 2 T.f_law_near T.fd_law_near ["_law_dice_here", "_law_most"] spNear := by
  have G_law_roll : FnOk P w K mg base CX0 1 T.f_law_roll T.fd_law_roll ["_law_dice_here", "_law_total"] spRoll2 := (ok_law_roll T).imp roll2
  refine T.F_law_near.ok sc_law_near (fun vs H Q E h => ?_) (fun cdv A outer s H vs Q E hr h => ?_)
  · obtain ⟨a, m, rfl, _⟩ := h
    rfl
  · obtain ⟨a, m, rfl, hd, h0, h1, q⟩ := h
    refine ⟨_, (PSs.nox (pss_one (ps_ret (pe_op op_sub (pe_call G_law_roll hr (by rfl) T.g_law_roll T.F_law_roll.kp T.b_law_roll .nil pass0 (pa_cons (pv 0) (pa_cons (pe_op op_add (pe_op op_mul pe_int (pv 1)) pe_int) pa_nil))) (pv 1))))), ?_⟩
    have e15 : (10 : Int) ^ 15 = 1000000000000000 := by decide
    rw [e15] at h1
    refine ⟨_, rfl, _, rfl, _, _, rfl, rfl, .inl ⟨by decide, by decide⟩, _, _, rfl, rfl, a, _, rfl, hd, (by show 0 < 2 * m + 1; omega), ?_, fun r H' hr s d => ⟨_, rfl, _, _, rfl, rfl, ?_⟩⟩
    · refine Nat.lt_trans (PySem.Flt.log2_lt_of (k := 60) (by decide) ?_) (by decide)
      show (2 * m + 1).natAbs < 2 ^ 60
      omega
    · have hr' : (r : Int) < 2 * m + 1 := hr
      exact q _ H' (by omega) (by omega) s d
/-! ### the law's own gcd -/
def spLGcd : Sp := fun vs H Q _ => ∃ t b : Int, vs = [.int t, .int b] ∧ Q (.int ((Nat.gcd t.natAbs b.natAbs : Nat) : Int)) H
def yOf : L2.St → Nat
  | [_, some (.int y)] => y.toNat
  | _ => 0
theorem abs_nat (i : Int) : (if i < 0 then -i else i) = (i.natAbs : Int) := by split <;> omega
theorem ok_law_gcd (T : Facts K mg) : FnOk P w K mg base CX0 1 T.f_law_gcd T.fd_law_gcd ["_law_one", "_law_other"] spLGcd := by
  refine T.F_law_gcd.ok sc_law_gcd (fun vs H Q E h => ?_) (fun cdv A outer s H vs Q E hr h => ?_)
  · obtain ⟨t, b, rfl, _⟩ := h
    rfl
  · obtain ⟨t, b, rfl, q⟩ := h
    refine ⟨_, (PSs.nox (pss_cons (ps_par (i := 0) (j := 1) (by rfl) sc_law_gcd.nd rfl rfl (by decide) rfl rfl (pa_cons (pe_callB call_abs (by rfl) T.z_abs (by decide +kernel) (pa_cons (pv 0) pa_nil)) (pa_cons (pe_callB call_abs (by rfl) T.z_abs (by decide +kernel) (pa_cons (pv 1) pa_nil)) pa_nil)) (by rfl))
    (pss_cons (ps_while PassesOwn.never (pt_cmpR op_gt (pv 1) pe_int (nomark _))
      (pss_one (ps_par (i := 0) (j := 1) (by rfl) sc_law_gcd.nd rfl rfl (by decide) rfl rfl (pa_cons (pv 1) (pa_cons (pe_op op_mod (pe_callTy call_int1 (by rfl) T.z_int (by decide +kernel) (pa_cons (pv 0) pa_nil)) (pv 1)) pa_nil)) (by rfl))))
    (pss_one (ps_ret (pv 0)))))), ?_⟩
    refine ⟨_, rfl, t, rfl, _, rfl, b, rfl, _, _, rfl, ?_⟩
    rw [abs_nat, abs_nat]
    refine while_by (fun σ H' => ∃ x y : Nat, σ = [some (.int x), some (.int y)] ∧ Nat.gcd x y = Nat.gcd t.natAbs b.natAbs ∧ H' = H) (fun σ _ => yOf σ) ⟨_, _, rfl, rfl, rfl⟩ (fun σ H' hP => ?_) (fun σ H' Q1 Q2 hQ h => ?_)
    · obtain ⟨x, y, rfl, hg, rfl⟩ := hP
      refine ⟨_, rfl, _, _, rfl, rfl, _, rfl, ?_⟩
      by_cases c : 0 < (y : Int)
      · rw [decide_eq_true c]
        refine iteT ⟨_, rfl, _, rfl, .inl ⟨_, rfl, _, rfl, _, _, rfl, rfl, c, _, _, rfl, ?_⟩⟩
        have e : (x : Int) % (y : Int) = ((x % y : Nat) : Int) := (Int.natCast_emod x y).symm
        refine ⟨⟨y, x % y, ?_, ?_, rfl⟩, ?_⟩
        · show [some (V.int y), some (V.int ((x : Int) % (y : Int)))] = _
          rw [e]
        · rw [← hg, Nat.gcd_comm x y, Nat.gcd_rec y x, Nat.gcd_comm]
        · show ((x : Int) % (y : Int)).toNat < (y : Int).toNat
          rw [e]
          have := Nat.mod_lt x (show y > 0 by omega)
          omega
      · rw [decide_eq_false c]
        have ey : y = 0 := by omega
        subst ey
        refine iteF ⟨_, rfl, ?_⟩
        rw [← hg, Nat.gcd_zero_right] at q
        exact q
    · obtain ⟨v, e, x1, x2, e1, e2, k, e3, h⟩ := h
      exact ⟨v, e, x1, x2, e1, e2, k, e3, hQ _ _ h⟩
def spRight : Sp := fun vs H Q _ => ∃ a : Addr, vs = [.ref a] ∧ Dc H a ∧ ∀ H', Sx a H H' → Dc H' a → Q (.bl true) H'
end
end K10

set_option Elab.async false
set_option linter.all false
set_option maxRecDepth 100000
set_option maxHeartbeats 4000000
namespace K10
open PySem PySem.Spec PyProof.Rows L2 StX RZ MyR SlX OwnR OwnF
theorem cont_snoc (x : Int) : ∀ l : List Int, cont (l ++ [x]) = Nat.gcd (cont l) x.natAbs
  | [] => by
    show Nat.gcd x.natAbs 0 = Nat.gcd 0 x.natAbs
    rw [Nat.gcd_zero_right, Nat.gcd_zero_left]
  | y :: ys => by
    show Nat.gcd y.natAbs (cont (ys ++ [x])) = Nat.gcd (Nat.gcd y.natAbs (cont ys)) x.natAbs
    rw [cont_snoc x ys, Nat.gcd_assoc]
theorem take_snoc {xs : List Int} {i : Nat} (h : i < xs.length) : xs.take (i + 1) = xs.take i ++ [co xs i] := by
  rw [List.take_add_one, List.getElem?_eq_getElem h, co_get h]
  rfl
theorem int_get {xs : List Int} {i : Nat} {x : V} (h : (xs.map V.int)[i]? = some x) : i < xs.length ∧ x = .int (co xs i) := by
  have hi : i < xs.length := by
    have := (List.getElem?_eq_some_iff.mp h).1
    rw [List.length_map] at this
    exact this
  rw [get_int hi] at h
  cases h
  exact ⟨hi, rfl⟩
theorem tab_snoc (n : Nat) (f : Nat → Int) : tab n f ++ [V.int (f n)] = tab (n + 1) f := by
  unfold tab
  rw [List.range_succ, List.map_append]
  rfl
theorem zs_tb {c : Int} {xs ys : List Int} (hl : xs.length = ys.length) : (tb xs.length fun k => co xs k + c * co ys k) = zs c xs ys := by
  refine co_inj (by rw [tb_len]; unfold zs; rw [List.length_zipWith, hl, Nat.min_self]) fun k => ?_
  rw [co_tb]
  unfold zs
  by_cases hk : k < xs.length
  · rw [if_pos hk, co_get (l := List.zipWith _ _ _) (by rw [List.length_zipWith]; omega), List.getElem_zipWith, co_get hk, co_get (by omega)]
  · rw [if_neg hk, co_far (by rw [List.length_zipWith]; omega)]
section
variable {P : Program} {w : World} {K : PySem.W.Frag} {mg : Str → Option Value} {base : Heap}
def spShared : Sp := fun vs H Q _ => ∃ (t : Addr) (ns : List Int), vs = [.ref t] ∧ H t = some (tp ns) ∧ Q (.int (cont ns : Nat)) H
theorem ok_law_shared (T : Facts K mg) : FnOk P w K mg base CX0 2 T.f_law_shared T.fd_law_shared ["_law_numbers"] spShared := by
  have G_law_gcd : FnOk P w K mg base CX0 1 T.f_law_gcd T.fd_law_gcd ["_law_one", "_law_other"] spLGcd := ok_law_gcd T
  refine T.F_law_shared.ok sc_law_shared (fun vs H Q E h => ?_) (fun cdv A outer s H vs Q E hr h => ?_)
  · obtain ⟨t, ns, rfl, _⟩ := h
    rfl
  · obtain ⟨t, ns, rfl, ht, q⟩ := h
    refine ⟨_, (PSs.nox (pss_cons (ps_set (i := 1) sc_law_shared.nd rfl (.inl rfl) pe_int)
    (pss_cons (ps_for PassesOwn.never (by rfl) (pi_tup (pv 0)) (pg_name (i := 2) sc_law_shared.nd rfl (.inl rfl))
      (pss_one (ps_set (i := 1) sc_law_shared.nd rfl (.inl rfl) (pe_call G_law_gcd hr (by rfl) T.g_law_gcd T.F_law_gcd.kp T.b_law_gcd .nil pass0 (pa_cons (pv 1) (pa_cons (pv 2) pa_nil))))))
    (pss_one (ps_ret (pv 1)))))), ?_⟩
    refine ⟨_, rfl, t, rfl, ⟨_, SqT.of ht⟩, for_tup (xs := ns.map V.int) (fun i σ H' => ∃ y, σ = [some (.ref t), some (.int ((cont (ns.take i) : Nat) : Int)), y] ∧ H' = H) ⟨none, rfl, rfl⟩ (fun i σ H' _ hP => by rw [hP.choose_spec.2]; exact SqT.of ht) (fun i x σ H' hx hP => ?_) (fun σ H' hP => ?_)⟩
    · obtain ⟨y, rfl, rfl⟩ := hP
      obtain ⟨hi, rfl⟩ := int_get hx
      refine ⟨_, rfl, _, rfl, _, _, rfl, some (.int (co ns i)), ?_, rfl⟩
      rw [take_snoc hi, cont_snoc]
      rfl
    · obtain ⟨y, rfl, rfl⟩ := hP
      rw [List.length_map, List.take_length]
      exact ⟨_, rfl, q⟩
def spPlus : Sp := fun vs H Q _ => ∃ (t u : Addr) (xs ys : List Int), vs = [.ref t, .ref u] ∧ H t = some (tp xs) ∧ H u = some (tp ys) ∧ xs.length = ys.length ∧ xs.length ≤ 100 ∧ ∀ p H', Same H H' → H p = none → H' p = some (tp (zs 1 xs ys)) → Q (.ref p) H'
theorem ok_law_plus (T : Facts K mg) : FnOk P w K mg base CX0 1 T.f_law_plus T.fd_law_plus ["_law_one", "_law_other"] spPlus := by
  refine T.F_law_plus.ok sc_law_plus (fun vs H Q E h => ?_) (fun cdv A outer s H vs Q E hr h => ?_)
  · obtain ⟨t, u, xs, ys, rfl, _⟩ := h
    rfl
  · obtain ⟨t, u, xs, ys, rfl, ht, hu, hl, hlt, q⟩ := h
    refine ⟨_, (PSs.nox (pss_one (ps_ret (pe_tupleOf (by rfl) T.z_tuple (pe_lc (own := [("_law_first", 2), ("_law_second", 3)]) (g := (gTup K 2 (gCons (gName 2) (gCons (gName 3) gNil)))) (tt := tYes) (by rfl) sc_law_plus.nd (pi_zipA (by rfl) T.z_zip (pa_cons (pv 0) (pa_cons (pv 1) pa_nil))) (blkOk_by (N := N_law_plus) (sc := defScope s_law_plus) (by decide +kernel)) (fun _ _ _ _ _ => (pg_tup (by rfl) (pgs_cons (pg_name (i := 2) sc_law_plus.nd rfl (.inl rfl)) (pgs_cons (pg_name (i := 3) sc_law_plus.nd rfl (.inl rfl)) pgs_nil)))) (fun _ _ _ _ _ => pts_nil) (fun _ _ _ _ _ => (pe_op op_add (pv 2) (pv 3)))))))), ?_⟩
    refine ⟨_, rfl, _, rfl, t, u, _, _, rfl, .inr ⟨SqT.of ht, SqT.of hu, fun D hD => ?_⟩⟩
    refine lc_zipT (xs := xs.map V.int) (ys := ys.map V.int) (by rw [List.length_map, List.length_map, hl]) (fun j H' => Same H H' ∧ H' D = some (.lst (tab j fun k => co xs k + 1 * co ys k))) ⟨same_upd0 hD, upd_same⟩ (fun j H' _ hP => ⟨SqT.of (hP.1 _ _ ht), SqT.of (hP.1 _ _ hu)⟩) (fun j x y A H' hx hy hP hA => ?_) (fun H' hP => ?_)
    · obtain ⟨sH, hD'⟩ := hP
      obtain ⟨hj, rfl⟩ := int_get hx
      obtain ⟨_, rfl⟩ := int_get hy
      have sA := same_upd0 (o := .tup [.int (co xs j), .int (co ys j)]) hA
      refine ⟨A, _, rfl, SqT.of upd_same, rfl, _, _, rfl, _, _, rfl, rfl, rfl, _, rfl, _, rfl, _, _, rfl, rfl, _, sA _ _ hD', ?_, fun b o e => ?_, ?_⟩
      · rw [tab_len]
        exact small1000 (by omega)
      · rw [upd_ne (ne_of_none e hD)]
        exact sA _ _ (sH _ _ e)
      · rw [upd_same, ← tab_snoc]
        show some (HO.lst (tab j _ ++ [V.int (co xs j + co ys j)])) = some (HO.lst (tab j _ ++ [V.int (co xs j + 1 * co ys j)]))
        rw [Int.one_mul]
    · obtain ⟨sH, hD'⟩ := hP
      rw [List.length_map] at hD'
      refine .inl ⟨D, _, rfl, SqL.of hD', fun p hp2 => ?_⟩
      refine q p _ (sH.trans (same_upd0 hp2)) (Same.free sH hp2) ?_
      rw [upd_same, tab_tb, zs_tb hl]
def spScaled : Sp := fun vs H Q _ => ∃ (t : Addr) (xs : List Int) (c : Int), vs = [.ref t, .int c] ∧ H t = some (tp xs) ∧ xs.length ≤ 100 ∧ (∀ x ∈ xs, sm x) ∧ sm c ∧ ∀ p H', Same H H' → H p = none → H' p = some (tp (xs.map fun x => c * x)) → Q (.ref p) H'
theorem ok_law_scaled (T : Facts K mg) : FnOk P w K mg base CX0 1 T.f_law_scaled T.fd_law_scaled ["_law_form_here", "_law_factor"] spScaled := by
  refine T.F_law_scaled.ok sc_law_scaled (fun vs H Q E h => ?_) (fun cdv A outer s H vs Q E hr h => ?_)
  · obtain ⟨t, xs, c, rfl, _⟩ := h
    rfl
  · obtain ⟨t, xs, c, rfl, ht, hl, hs, hc, q⟩ := h
    refine ⟨_, (PSs.nox (pss_one (ps_ret (pe_tupleOf (by rfl) T.z_tuple (pe_lc (own := [("_law_entry", 2)]) (g := (gName 2)) (tt := tYes) (by rfl) sc_law_scaled.nd (pi_tup (pv 0)) (blkOk_by (N := N_law_scaled) (sc := defScope s_law_scaled) (by decide +kernel)) (fun _ _ _ _ _ => (pg_name (i := 2) sc_law_scaled.nd rfl (.inl rfl))) (fun _ _ _ _ _ => pts_nil) (fun _ _ _ _ _ => (pe_op op_mulW (pv 1) (pv 2)))))))), ?_⟩
    refine ⟨_, rfl, t, rfl, ⟨_, SqT.of ht⟩, fun D hD => lc_tup (xs := xs.map V.int) (fun j H' => H' = upd H D (.lst (tab j fun k => c * co xs k))) rfl (fun j H' _ hP => ?_) (fun j x H' hx hP => ?_) (fun H' hP => ?_)⟩
    · rw [hP]
      exact SqT.of (same_upd0 hD _ _ ht)
    · subst hP
      obtain ⟨hj, rfl⟩ := int_get hx
      refine ⟨rfl, ⟨_, rfl, _, rfl, _, _, rfl, rfl, sm_mul hc (sm_co hs hj), _, upd_same, ?_, ?_⟩⟩
      · rw [tab_len]
        exact small1000 (by omega)
      · rw [upd_upd, ← tab_snoc]
    · subst hP
      rw [List.length_map, tab_tb, tb_map (fun x => c * x) xs]
      refine .inl ⟨D, _, rfl, SqL.of upd_same, fun p hp2 => ?_⟩
      exact q p _ ((same_upd0 hD).trans (same_upd0 hp2)) (Same.free (same_upd0 hD) hp2) upd_same
end
end K10

set_option Elab.async false
set_option linter.all false
set_option maxRecDepth 100000
set_option maxHeartbeats 4000000
namespace K10
open PySem PySem.Spec PyProof.Rows L2 StX RZ MyR SlX OwnR OwnF EnumT
section
variable {P : Program} {w : World} {K : PySem.W.Frag} {mg : Str → Option Value} {base : Heap}
def spProd : Sp := fun vs H Q _ => ∃ (a b : Addr) (xs ys : List Int), vs = [.ref a, .ref b] ∧ H a = some (tp xs) ∧ H b = some (tp ys) ∧ xs ≠ [] ∧ ys ≠ [] ∧ xs.length ≤ 100 ∧ ys.length ≤ 100 ∧ (∀ x ∈ xs, sm x) ∧ (∀ x ∈ ys, sm x) ∧ ∀ p H', Same H H' → H p = none → H' p = some (tp (ml xs ys)) → Q (.ref p) H'
theorem ok_law_product (T : Facts K mg) : FnOk P w K mg base CX0 1 T.f_law_product T.fd_law_product ["_law_one", "_law_other"] spProd := by
  refine T.F_law_product.ok sc_law_product (fun vs H Q E h => ?_) (fun cdv A outer s H vs Q E hr h => ?_)
  · obtain ⟨a, b, xs, ys, rfl, _⟩ := h
    rfl
  · obtain ⟨a, b, xs, ys, rfl, ha, hb, nx, ny, lx, ly, hx, hy, q⟩ := h
    have px : 0 < xs.length := List.length_pos_iff.mpr nx
    have py : 0 < ys.length := List.length_pos_iff.mpr ny
    refine ⟨_, (PSs.nox (pss_cons (ps_setLc (i := 2) (own := [("_law_place", 3)]) (g := (gName 3)) (tt := tYes) rfl sc_law_product.nd rfl rfl (sw_true rfl rfl rfl (by decide +kernel)) (pi_range1 (by rfl) T.z_range (pa_cons (pe_op op_sub (pe_op op_add (pe_callB call_len_seq (by rfl) T.z_len (by decide +kernel) (pa_cons (pv 0) pa_nil)) (pe_callB call_len_seq (by rfl) T.z_len (by decide +kernel) (pa_cons (pv 1) pa_nil))) pe_int) pa_nil)) (blkOk_by (N := N_law_product) (sc := defScope s_law_product) (by decide +kernel)) (fun _ _ _ _ _ => (pg_name (i := 3) sc_law_product.nd rfl (.inl rfl))) (fun _ _ _ _ _ => pts_nil) (fun _ _ _ _ _ => pe_int))
    (pss_cons (ps_for PassesOwn.never (by rfl) (pi_enumT (by rfl) T.z_enumerate (pa_cons (pv 0) pa_nil)) (pg_tup (by rfl) (pgs_cons (pg_name (i := 4) sc_law_product.nd rfl (.inl rfl)) (pgs_cons (pg_name (i := 5) sc_law_product.nd rfl (.inl rfl)) pgs_nil)))
      (pss_one (ps_for PassesOwn.never (by rfl) (pi_enumT (by rfl) T.z_enumerate (pa_cons (pv 1) pa_nil)) (pg_tup (by rfl) (pgs_cons (pg_name (i := 3) sc_law_product.nd rfl (.inl rfl)) (pgs_cons (pg_name (i := 6) sc_law_product.nd rfl (.inl rfl)) pgs_nil)))
        (pss_one (ps_asg (pe_op op_add (pe_ix ix_list (pv 2) (pe_op op_add (pv 4) (pv 3)) (fun _ _ => rfl)) (pe_op op_mulW (pv 5) (pv 6))) (pg_sub (pv 2) (pe_op op_add (pv 4) (pv 3)) set_list))))))
    (pss_one (ps_ret (pe_tupleOf (by rfl) T.z_tuple (pv 2))))))), ?_⟩
    refine ⟨_, rfl, a, _, rfl, .inr (SqT.of ha), _, rfl, b, _, rfl, .inr (SqT.of hb), ?_⟩
    rw [List.length_map, List.length_map]
    obtain ⟨N, hN⟩ : ∃ N, N = xs.length + ys.length - 1 := ⟨_, rfl⟩
    have eN : (((xs.length : Int) + (ys.length : Int) - 1)).toNat = N := by omega
    refine ⟨_, _, rfl, rfl, _, _, rfl, rfl, _, rfl, (by show -(2 ^ 62) ≤ (xs.length : Int) + (ys.length : Int) - 1; omega), (by show (xs.length : Int) + (ys.length : Int) - 1 < 2 ^ 62; omega), fun D hD => lc_range (n := _) (fun j H' => H' = upd H D (.lst (List.replicate j (V.int 0)))) rfl (fun j H' hj hP => ?_) (fun H' hP => ?_)⟩
    · subst hP
      have hj2 : j < N := by rw [← eN]; exact hj
      refine ⟨rfl, ⟨_, upd_same, ?_, ?_⟩⟩
      · rw [List.length_replicate]
        exact small1000 (by omega)
      · rw [upd_upd, List.replicate_succ']
    · subst hP
      show _
      rw [show List.replicate (((xs.length : Int) + (ys.length : Int) - 1)).toNat (V.int 0) = tab N (fun k => cv (xs.take 0) (co ys) k) by rw [eN, tab_rep]; rfl]
      have sD : ∀ o, Same H (upd H D o) := fun o => same_upd0 hD
      -- what stands in each turn: the list at D, and what stood before
      refine ⟨_, rfl, a, _, rfl, SqT.of (sD _ _ _ ha), for_enumT (xs := xs.map V.int) (fun i σ H' => ∃ y3 y4 y5 y6, σ = [some (.ref a), some (.ref b), some (.ref D), y3, y4, y5, y6] ∧ Same H H' ∧ H' D = some (.lst (tab N fun k => cv (xs.take i) (co ys) k))) ⟨none, none, none, none, rfl, sD _, upd_same⟩ (fun i σ H' hP => ?_) (fun i x B σ H' hxi hP hB => ?_) (fun σ H' hP => ?_)⟩
      · obtain ⟨y3, y4, y5, y6, _, sH, _⟩ := hP
        exact SqT.of (sH _ _ ha)
      · obtain ⟨y3, y4, y5, y6, rfl, sH, hL⟩ := hP
        obtain ⟨hi2, rfl⟩ := int_get hxi
        refine ⟨B, _, rfl, SqT.of upd_same, rfl, _, _, rfl, _, _, rfl, rfl, ?_⟩
        refine gen_upd H' B _ hB (fun H2 s2 _ => ?_)
        have sH2 := sH.trans s2
        have hL2 := s2 _ _ hL
        rw [tab_ext (g := J xs (co ys) i 0) fun k hk => J_0.symm] at hL2
        refine ⟨_, rfl, b, _, rfl, SqT.of (sH2 _ _ hb), for_enumT (xs := ys.map V.int) (fun j σ H3 => ∃ y3 y6, σ = [some (.ref a), some (.ref b), some (.ref D), y3, some (.int ((i : Nat) : Int)), some (.int (co xs i)), y6] ∧ Same H H3 ∧ H3 D = some (.lst (tab N (J xs (co ys) i j)))) ⟨y3, y6, rfl, sH2, hL2⟩ (fun j σ H3 hP => ?_) (fun j y B2 σ H3 hyj hP hB2 => ?_) (fun σ H3 hP => ?_)⟩
        · obtain ⟨y3, y6, _, sH3, _⟩ := hP
          exact SqT.of (sH3 _ _ hb)
        · obtain ⟨y3, y6, rfl, sH3, hL3⟩ := hP
          obtain ⟨hj2, rfl⟩ := int_get hyj
          refine ⟨B2, _, rfl, SqT.of upd_same, rfl, _, _, rfl, _, _, rfl, rfl, ?_⟩
          refine gen_upd H3 B2 _ hB2 (fun H4 s4 _ => ?_)
          have sH4 := sH3.trans s4
          have hL4 := s4 _ _ hL3
          have e1 : ((i : Nat) : Int) + ((j : Nat) : Int) = ((i + j : Nat) : Int) := by omega
          refine ⟨_, rfl, _, rfl, _, rfl, _, _, rfl, rfl, D, _, _, _, rfl, rfl, SqL.of hL4, at_of e1 (tab_get (by omega)), _, rfl, _, rfl, _, _, rfl, rfl, sm_mul (sm_co hx hi2) (sm_co hy hj2), _, _, rfl, rfl, ?_⟩
          refine ⟨_, rfl, _, rfl, _, rfl, _, _, rfl, rfl, D, _, _, (i + j), rfl, rfl, hL4, ?_, ?_⟩
          · rw [tab_len]
            exact ix_at e1 (by omega)
          · refine ⟨_, _, rfl, fun c o e => ?_, ?_⟩
            · rw [upd_ne (ne_of_none e hD)]
              exact sH4 _ _ e
            · rw [upd_same]
              show some (HO.lst ((tab N (J xs (co ys) i j)).set (i + j) (.int (J xs (co ys) i j (i + j) + co xs i * co ys j)))) = _
              rw [tab_set, tab_ext fun k hk => J_step]
        · obtain ⟨y3, y6, rfl, sH3, hL3⟩ := hP
          rw [List.length_map, tab_ext fun k hk => J_end hi2] at hL3
          exact ⟨_, _, _, _, rfl, sH3, hL3⟩
      · obtain ⟨y3, y4, y5, y6, rfl, sH, hL⟩ := hP
        rw [List.length_map, List.take_length, tab_tb] at hL
        refine ⟨_, rfl, .inl ⟨D, _, rfl, SqL.of hL, fun p hp => ?_⟩⟩
        refine q p _ (sH.trans (same_upd0 hp)) (Same.free sH hp) ?_
        rw [upd_same, hN]
        rfl
/-- the product of the first n -/
def pow (l : List Int) : Nat → List Int
  | 0 => [1]
  | n + 1 => ml (pow l n) l
def spPow : Sp := fun vs H Q _ => ∃ (a : Addr) (xs : List Int) (n : Nat), vs = [.ref a, .int n] ∧ H a = some (tp xs) ∧ xs ≠ [] ∧ xs.length ≤ 100 ∧ (∀ x ∈ xs, sm x) ∧ (∀ i, i < n → pow xs i ≠ [] ∧ (pow xs i).length ≤ 100 ∧ ∀ x ∈ pow xs i, sm x) ∧ n ≤ 100 ∧ ∀ p H', Same H H' → H' p = some (tp (pow xs n)) → Q (.ref p) H'
theorem ok_law_power (T : Facts K mg) : FnOk P w K mg base CX0 2 T.f_law_power T.fd_law_power ["_law_pair", "_law_times"] spPow := by
  have G_law_product : FnOk P w K mg base CX0 1 T.f_law_product T.fd_law_product ["_law_one", "_law_other"] spProd := ok_law_product T
  refine T.F_law_power.ok sc_law_power (fun vs H Q E h => ?_) (fun cdv A outer s H vs Q E hr h => ?_)
  · obtain ⟨a, xs, n, rfl, _⟩ := h
    rfl
  · obtain ⟨a, xs, n, rfl, ha, nx, lx, hx, hp, hn, q⟩ := h
    refine ⟨_, (PSs.nox (pss_cons (ps_set (i := 2) sc_law_power.nd rfl (.inl rfl) (pe_tup (pa_cons pe_int pa_nil)))
    (pss_cons (ps_for PassesOwn.never (by rfl) (pi_range1 (by rfl) T.z_range (pa_cons (pv 1) pa_nil)) (pg_name (i := 3) sc_law_power.nd rfl (.inl rfl))
      (pss_one (ps_set (i := 2) sc_law_power.nd rfl (.inl rfl) (pe_call G_law_product hr (by rfl) T.g_law_product T.F_law_product.kp T.b_law_product .nil pass0 (pa_cons (pv 2) (pa_cons (pv 0) pa_nil))))))
    (pss_one (ps_ret (pv 2)))))), ?_⟩
    refine ⟨(by show 1 ≤ sizeLine; decide), fun p0 n0 => ⟨_, rfl, n, rfl, by omega, by omega, for_range (n := (n : Int).toNat) (fun i σ H' => ∃ r y3, σ = [some (.ref a), some (.int n), some (.ref r), y3] ∧ Same H H' ∧ H' r = some (tp (pow xs i))) ⟨p0, none, rfl, same_upd0 n0, upd_same⟩ (fun i σ H' hi hP => ?_) (fun σ H' hP => ?_)⟩⟩
    · obtain ⟨r, y3, rfl, sH, hr2⟩ := hP
      obtain ⟨h1, h2, h3⟩ := hp i (by omega)
      exact ⟨_, rfl, _, rfl, r, a, _, xs, rfl, hr2, sH _ _ ha, h1, nx, h2, lx, h3, hx, fun p H2 s2 _ hp2 => ⟨p, _, rfl, sH.trans s2, hp2⟩⟩
    · obtain ⟨r, y3, rfl, sH, hr2⟩ := hP
      rw [Int.toNat_natCast] at hr2
      exact ⟨_, rfl, q r H' sH hr2⟩
end
end K10

set_option Elab.async false
set_option linter.all false
set_option maxRecDepth 100000
set_option maxHeartbeats 4000000
namespace K10
open PySem PySem.Spec PyProof.Rows L2 StX RZ MyR SlX OwnR OwnF EnumT
theorem first_of : ∀ ns : List Int, cont ns ≠ 0 → ∃ x r, ns.filter (fun x => x != 0) = x :: r ∧ sg ns = (if 0 < x then 1 else -1)
  | [], h => absurd rfl h
  | y :: ys, h => by
    by_cases c : y = 0
    · have hc : cont ys ≠ 0 := fun e => h (by
        show Nat.gcd y.natAbs (cont ys) = 0
        rw [c, e]
        rfl)
      obtain ⟨x, r, e1, e2⟩ := first_of ys hc
      refine ⟨x, r, ?_, ?_⟩
      · rw [List.filter_cons_of_neg (by rw [c]; decide)]
        exact e1
      · show (if y = 0 then sg ys else _) = _
        rw [if_pos c]
        exact e2
    · refine ⟨y, ys.filter (fun x => x != 0), ?_, ?_⟩
      · rw [List.filter_cons_of_pos (by simpa using c)]
      · show (if y = 0 then sg ys else if 0 < y then 1 else -1) = _
        rw [if_neg c]
section
variable {P : Program} {w : World} {K : PySem.W.Frag} {mg : Str → Option Value} {base : Heap}
theorem ok_law_plain (T : Facts K mg) : FnOk P w K mg base CX0 3 T.f_law_plain T.fd_law_plain ["_law_form_here"] spPrim := by
  have G_law_shared : FnOk P w K mg base CX0 2 T.f_law_shared T.fd_law_shared ["_law_numbers"] spShared := ok_law_shared T
  refine T.F_law_plain.ok sc_law_plain (fun vs H Q E h => ?_) (fun cdv A outer s H vs Q E hr h => ?_)
  · obtain ⟨t, ns, rfl, _⟩ := h
    rfl
  · obtain ⟨t, ns, rfl, ht, hl, hs, q⟩ := h
    refine ⟨_, (PSs.nox (pss_cons (ps_set (i := 1) sc_law_plain.nd rfl (.inr rfl) (pe_call G_law_shared hr (by rfl) T.g_law_shared T.F_law_shared.kp T.b_law_shared .nil pass0 (pa_cons (pv 0) pa_nil)))
    (pss_cons (ps_if (pt_cmpR op_eq (pv 1) pe_int (nomark _))
      (pss_one (ps_ret (pv 0)))
      pss_nil)
    (pss_cons (ps_set (i := 2) sc_law_plain.nd rfl (.inr rfl) (pe_ix ix_list (pe_lc (own := [("_law_entry", 3)]) (g := (gName 3)) (by rfl) sc_law_plain.nd (pi_tup (pv 0)) (blkOk_by (N := N_law_plain) (sc := defScope s_law_plain) (by decide +kernel)) (fun _ _ _ _ _ => (pg_name (i := 3) sc_law_plain.nd rfl (.inl rfl))) (fun _ _ _ _ _ => (pts_one (pt_cmpR op_ne (pv 3) pe_int (nomark _)))) (fun _ _ _ _ _ => (pv 3))) pe_int (fun _ _ => rfl)))
    (pss_one (ps_ret (pe_tupleOf (by rfl) T.z_tuple (pe_lc (own := [("_law_entry", 3)]) (g := (gName 3)) (tt := tYes) (by rfl) sc_law_plain.nd (pi_tup (pv 0)) (blkOk_by (N := N_law_plain) (sc := defScope s_law_plain) (by decide +kernel)) (fun _ _ _ _ _ => (pg_name (i := 3) sc_law_plain.nd rfl (.inl rfl))) (fun _ _ _ _ _ => pts_nil) (fun _ _ _ _ _ => (pe_op op_fdivZ (pv 3) (pe_ifExp (pt_cmpR op_gt (pv 2) pe_int (nomark _)) (pv 1) (pe_op op_sub pe_int (pv 1))))))))))))), ?_⟩
    refine ⟨_, rfl, t, ns, rfl, ht, _, rfl, rfl, _, rfl, ?_⟩
    by_cases c : cont ns = 0
    · rw [decide_eq_true (show V.int ((cont ns : Nat) : Int) = V.int 0 by rw [c]; rfl)]
      refine iteT ⟨_, rfl, q t H (Same.rf H) ?_⟩
      unfold prim
      rw [if_pos (by unfold part; rw [c]; exact Int.zero_mul _)]
      exact ht
    · rw [decide_eq_false fun z => c (Int.natCast_eq_zero.mp (V.int.inj z))]
      obtain ⟨x0, r0, e1, e2⟩ := first_of ns c
      have hpart : part ns = if 0 < x0 then ((cont ns : Nat) : Int) else 0 - ((cont ns : Nat) : Int) := by
        unfold part
        rw [e2]
        split
        · exact Int.mul_one _
        · rw [Int.mul_neg, Int.mul_one, Int.zero_sub]
      have hp0 : part ns ≠ 0 := fun e => c (by rw [← part_abs, e]; rfl)
      have hcd : CDivZ 0 (part ns) := ⟨hp0, Nat.lt_trans (PySem.Flt.log2_lt_of (k := 400) (by decide) (sm_part hs)) (by decide)⟩
      refine iteF ⟨_, rfl, t, rfl, ⟨_, SqT.of ht⟩, fun D hD => lc_tup (xs := ns.map V.int) (fun j H' => Same H H' ∧ H' D = some (.lst (((ns.take j).filter (fun x => x != 0)).map V.int))) ⟨same_upd0 hD, upd_same⟩ (fun j H' _ hP => SqT.of (hP.1 _ _ ht)) (fun j x H' hx hP => ?_) (fun H1 hP => ?_)⟩
      · obtain ⟨sH, hL⟩ := hP
        obtain ⟨hj, rfl⟩ := int_get hx
        refine ⟨rfl, _, rfl, rfl, _, rfl, ?_⟩
        rw [take_snoc hj, List.filter_append]
        by_cases d : co ns j = 0
        · rw [decide_eq_true (show V.int (co ns j) = V.int 0 by rw [d])]
          refine iteF ⟨sH, ?_⟩
          rw [hL, List.filter_cons_of_neg (by rw [d]; decide), List.filter_nil, List.append_nil]
        · rw [decide_eq_false fun z => d (V.int.inj z)]
          refine iteT ⟨_, rfl, _, hL, ?_, fun b o e => ?_, ?_⟩
          · have h1 := List.length_filter_le (fun x => x != 0) (ns.take j)
            rw [List.length_take] at h1
            rw [List.length_map]
            exact small1000 (by omega)
          · rw [upd_ne (ne_of_none e hD)]
            exact sH _ _ e
          · rw [upd_same, List.filter_cons_of_pos (by simpa using d), List.filter_nil, List.map_append]
            rfl
      · obtain ⟨s1, hL⟩ := hP
        rw [List.length_map, List.take_length, e1] at hL
        refine ⟨D, _, _, .int x0, rfl, rfl, SqL.of hL, atI_nat (j := 0) rfl, ?_⟩
        have ht1 := s1 _ _ ht
        refine ⟨_, rfl, t, rfl, ⟨_, SqT.of ht1⟩, fun D2 hD2 => lc_tup (xs := ns.map V.int) (fun j H' => H' = upd H1 D2 (.lst (tab j fun k => (co ns k).fdiv (part ns)))) rfl (fun j H' _ hP => ?_) (fun j x H' hx hP => ?_) (fun H' hP => ?_)⟩
        · rw [hP]
          exact SqT.of (same_upd0 hD2 _ _ ht1)
        · subst hP
          obtain ⟨hj, rfl⟩ := int_get hx
          refine ⟨rfl, _, rfl, _, rfl, x0, 0, rfl, rfl, _, rfl, ?_⟩
          have fin : ∀ v : Int, v = part ns → True := fun _ _ => True.intro
          by_cases d : 0 < x0
          · rw [decide_eq_true d]
            rw [if_pos d] at hpart
            rw [hpart] at hcd
            refine iteT ⟨_, rfl, _, _, rfl, rfl, hcd, _, upd_same, ?_, ?_⟩
            · rw [tab_len]
              exact small1000 (by omega)
            · rw [upd_upd, ← tab_snoc, hpart]
          · rw [decide_eq_false d]
            rw [if_neg d] at hpart
            rw [hpart] at hcd
            refine iteF ⟨_, rfl, _, _, rfl, rfl, _, _, rfl, rfl, hcd, _, upd_same, ?_, ?_⟩
            · rw [tab_len]
              exact small1000 (by omega)
            · rw [upd_upd, ← tab_snoc, hpart]
        · subst hP
          rw [List.length_map, tab_tb, tb_map (fun x => x.fdiv (part ns)) ns]
          refine .inl ⟨D2, _, rfl, SqL.of upd_same, fun p hp2 => ?_⟩
          refine q p _ (s1.trans ((same_upd0 hD2).trans (same_upd0 hp2))) ?_
          rw [upd_same]
          unfold prim
          rw [if_neg hp0]
end
end K10

set_option Elab.async false
set_option linter.all false
set_option maxRecDepth 100000
set_option maxHeartbeats 4000000
namespace K10
open PySem PySem.Spec PyProof.Rows L2 StX RZ MyR SlX OwnR OwnF EnumT
theorem prim_len (l : List Int) : (prim l).length = l.length := by
  unfold prim
  split
  · rfl
  · rw [List.length_map]
theorem prim_mem {l : List Int} {b : Nat} (h : ∀ x ∈ l, x.natAbs ≤ b) : ∀ x ∈ prim l, x.natAbs ≤ b := by
  intro x hx
  unfold prim at hx
  by_cases c : part l = 0
  · rw [if_pos c] at hx
    exact h x hx
  · rw [if_neg c] at hx
    obtain ⟨y, hy, rfl⟩ := List.mem_map.mp hx
    have hd : part l ∣ y := Int.natAbs_dvd_natAbs.mp (by rw [part_abs]; exact Int.natAbs_dvd_natAbs.mpr (cont_dvd l y hy))
    obtain ⟨k, rfl⟩ := hd
    show ((part l * k).fdiv (part l)).natAbs ≤ b
    rw [Int.mul_fdiv_cancel_left _ c]
    refine Nat.le_trans ?_ (h _ hy)
    rw [Int.natAbs_mul]
    exact Nat.le_mul_of_pos_left _ (Int.natAbs_pos.mpr c)
section
variable {P : Program} {w : World} {K : PySem.W.Frag} {mg : Str → Option Value} {base : Heap}
theorem dc_ne {H : Hp} {d p : Addr} {xs : List V} (hd : Dc H d) (hp : H p = some (.tup xs)) : p ≠ d := fun e => by
  obtain ⟨x, y, z, h⟩ := hd
  rw [e, h] at hp
  cases hp
def spLine : Sp := fun vs H Q _ => ∃ (t : Addr) (u v : Int), vs = [.ref t] ∧ H t = some (tp [u, v]) ∧ ∀ p, H p = none → Q (.ref p) (upd H p (tp [v, 0 - u]))
theorem ok_law_line (T : Facts K mg) : FnOk P w K mg base CX0 1 T.f_law_line T.fd_law_line ["_law_point_here"] spLine := by
  refine T.F_law_line.ok sc_law_line (fun vs H Q E h => ?_) (fun cdv A outer s H vs Q E hr h => ?_)
  · obtain ⟨t, u, v, rfl, _⟩ := h
    rfl
  · obtain ⟨t, u, v, rfl, ht, q⟩ := h
    refine ⟨_, (PSs.nox (pss_one (ps_ret (pe_tup (pa_cons (pe_ix ix_tup (pv 0) pe_int (fun _ _ => rfl)) (pa_cons (pe_op op_sub pe_int (pe_ix ix_tup (pv 0) pe_int (fun _ _ => rfl))) pa_nil)))))), ?_⟩
    exact ⟨_, rfl, t, _, 1, _, rfl, rfl, SqT.of ht, atI_nat (j := 1) rfl, _, rfl, t, _, 0, _, rfl, rfl, SqT.of ht, atI_nat (j := 0) rfl, _, _, rfl, rfl, (by show 2 ≤ sizeLine; decide), fun p hp => q p hp⟩
/-- a drawn point -/
def spPoint : Sp := fun vs H Q _ => ∃ (d : Addr) (m : Nat), vs = [.ref d, .int m] ∧ Dc H d ∧ 1 ≤ m ∧ m ≤ 1000 ∧ ∀ p H' u v, Sx d H H' → Dc H' d → H' p = some (tp [u, v]) → u.natAbs ≤ m → v.natAbs ≤ m → Q (.ref p) H'
theorem ok_law_point (T : Facts K mg) : FnOk P w K mg base CX0 4 T.f_law_point T.fd_law_point ["_law_dice_here", "_law_most"] spPoint := by
  have G_law_near : FnOk P w K mg base CX0 2 T.f_law_near T.fd_law_near ["_law_dice_here", "_law_most"] spNear := ok_law_near T
  have G_law_plain : FnOk P w K mg base CX0 3 T.f_law_plain T.fd_law_plain ["_law_form_here"] spPrim := ok_law_plain T
  refine T.F_law_point.ok sc_law_point (fun vs H Q E h => ?_) (fun cdv A outer s H vs Q E hr h => ?_)
  · obtain ⟨d, m, rfl, _⟩ := h
    rfl
  · obtain ⟨d, m, rfl, hd, h1, h2, q⟩ := h
    refine ⟨_, (PSs.nox (pss_cons (ps_par (i := 2) (j := 3) (by rfl) sc_law_point.nd rfl rfl (by decide) rfl rfl (pa_cons (pe_call G_law_near (hr.mono (by decide)) (by rfl) T.g_law_near T.F_law_near.kp T.b_law_near .nil pass0 (pa_cons (pv 0) (pa_cons (pv 1) pa_nil))) (pa_cons (pe_call G_law_near (hr.mono (by decide)) (by rfl) T.g_law_near T.F_law_near.kp T.b_law_near .nil pass0 (pa_cons (pv 0) (pa_cons (pv 1) pa_nil))) pa_nil)) (by rfl))
    (pss_one (ps_ret (pe_ifExp (pt_cmpR (op_neD (hu64 hr)) (pe_tup (pa_cons (pv 2) (pa_cons (pv 3) pa_nil))) (pe_tup (pa_cons pe_int (pa_cons pe_int pa_nil))) (nomark _)) (pe_call G_law_plain hr (by rfl) T.g_law_plain T.F_law_plain.kp T.b_law_plain .nil pass0 (pa_cons (pe_tup (pa_cons (pv 2) (pa_cons (pv 3) pa_nil))) pa_nil)) (pe_tup (pa_cons pe_int (pa_cons pe_int pa_nil)))))))), ?_⟩
    have e15 : (10 : Int) ^ 15 = 1000000000000000 := by decide
    have z2 : 2 ≤ sizeLine := by decide
    refine ⟨_, rfl, _, rfl, d, m, rfl, hd, by omega, by rw [e15]; omega, fun u H1 u1 u2 s1 d1 => ⟨_, rfl, _, rfl, d, m, rfl, d1, by omega, by rw [e15]; omega, fun v H2 v1 v2 s2 d2 => ⟨_, _, rfl, ?_⟩⟩⟩
    have s12 := s1.trans s2
    refine ⟨_, rfl, _, rfl, z2, fun p1 n1 => gen_upd H2 p1 (tp [u, v]) n1 fun H3 s3 f3 => ⟨z2, fun p2 n2 => gen_upd H3 p2 (tp [0, 0]) n2 fun H4 s4 f4 => ?_⟩⟩
    refine ne_ints (xs := [u, v]) (ys := [0, 0]) (SqT.of (s4 _ _ f3)) (SqT.of f4) ?_
    have d4 := d2.same (s3.trans s4)
    have s14 : Sx d H H4 := s12.trans (Sx.of (s3.trans s4))
    by_cases c : [u, v] = [0, 0]
    · rw [decide_eq_true c]
      refine ⟨_, rfl, iteF ⟨z2, fun p3 n3 => gen_upd H4 p3 (tp [1, 0]) n3 fun H5 s5 f5 => ?_⟩⟩
      exact q p3 H5 1 0 (s14.trans (Sx.of s5)) (d4.same s5) f5 (by show 1 ≤ m; omega) (by show 0 ≤ m; omega)
    · rw [decide_eq_false c]
      refine ⟨_, rfl, iteT ⟨_, rfl, _, rfl, z2, fun p3 n3 => gen_upd H4 p3 (tp [u, v]) n3 fun H5 s5 f5 => ?_⟩⟩
      have hb : ∀ x ∈ [u, v], x.natAbs ≤ m := fun x hx => by
        simp only [List.mem_cons, List.not_mem_nil, or_false] at hx
        rcases hx with e | e <;> rw [e] <;> omega
      refine ⟨p3, [u, v], rfl, f5, by show 2 ≤ 1000; omega, fun x hx => Nat.lt_of_le_of_lt (hb x hx) (Nat.lt_of_le_of_lt h2 (by decide)), fun p H6 s6 hp => ?_⟩
      have hl := prim_len [u, v]
      have hm := prim_mem hb
      generalize prim [u, v] = r at hp hl hm
      match r, hl with
      | [x, y], _ => exact q p H6 x y (s14.trans (Sx.of (s5.trans s6))) (d4.same (s5.trans s6)) hp (hm x (by simp)) (hm y (by simp))
/-- a drawn form -/
def spSmall : Sp := fun vs H Q _ => ∃ (d : Addr) (n m : Nat), vs = [.ref d, .int n, .int m] ∧ Dc H d ∧ n ≤ 40 ∧ m ≤ 1000000000000 ∧ ∀ p H' l, Sx d H H' → Dc H' d → H' p = some (tp l) → l.length = n + 1 → (∀ x ∈ l, x.natAbs ≤ m) → Q (.ref p) H'
theorem ok_law_small_form (T : Facts K mg) : FnOk P w K mg base CX0 3 T.f_law_small_form T.fd_law_small_form ["_law_dice_here", "_law_degree", "_law_most"] spSmall := by
  have G_law_near : FnOk P w K mg base CX0 2 T.f_law_near T.fd_law_near ["_law_dice_here", "_law_most"] spNear := ok_law_near T
  refine T.F_law_small_form.ok sc_law_small_form (fun vs H Q E h => ?_) (fun cdv A outer s H vs Q E hr h => ?_)
  · obtain ⟨d, n, m, rfl, _⟩ := h
    rfl
  · obtain ⟨d, n, m, rfl, hd, hn, hm, q⟩ := h
    refine ⟨_, (PSs.nox (pss_one (ps_ret (pe_tupleOf (by rfl) T.z_tuple (pe_lc (own := [("_law_place", 3)]) (g := (gName 3)) (tt := tYes) (by rfl) sc_law_small_form.nd (pi_range1 (by rfl) T.z_range (pa_cons (pe_op op_add (pv 1) pe_int) pa_nil)) (blkOk_by (N := N_law_small_form) (sc := defScope s_law_small_form) (by decide +kernel)) (fun _ _ _ _ _ => (pg_name (i := 3) sc_law_small_form.nd rfl (.inl rfl))) (fun _ _ _ _ _ => pts_nil) (fun _ _ _ _ _ => (pe_call G_law_near hr (by rfl) T.g_law_near T.F_law_near.kp T.b_law_near .nil pass0 (pa_cons (pv 0) (pa_cons (pv 2) pa_nil))))))))), ?_⟩
    have e15 : (10 : Int) ^ 15 = 1000000000000000 := by decide
    refine ⟨_, rfl, _, _, rfl, rfl, _, rfl, (by show -(2 ^ 62) ≤ (n : Int) + 1; omega), (by show (n : Int) + 1 < 2 ^ 62; omega), fun D hD => lc_range (n := ((n : Int) + 1).toNat) (fun j H' => Sx d H H' ∧ Dc H' d ∧ ∃ l : List Int, H' D = some (.lst (l.map V.int)) ∧ l.length = j ∧ ∀ x ∈ l, x.natAbs ≤ m) ⟨Sx.of (same_upd0 hD), hd.same (same_upd0 hD), [], upd_same, rfl, fun x hx => by cases hx⟩ (fun j H' hj hP => ?_) (fun H' hP => ?_)⟩
    · obtain ⟨sH, dH, l, hL, hl, hb⟩ := hP
      have nD : D ≠ d := hd.ne hD
      refine ⟨rfl, _, rfl, _, rfl, d, m, rfl, dH, by omega, by rw [e15]; omega, fun r H2 r1 r2 s2 d2 => ⟨_, s2 D _ nD hL, ?_, fun b o hb2 e => ?_, ?_, l ++ [r], ?_, ?_, fun x hx => ?_⟩⟩
      · rw [List.length_map]
        exact small1000 (by omega)
      · rw [upd_ne (ne_of_none e hD)]
        exact (sH.trans s2) b o hb2 e
      · obtain ⟨x, y, z, e⟩ := d2
        exact ⟨x, y, z, by rw [upd_ne (Ne.symm nD)]; exact e⟩
      · rw [upd_same, List.map_append]
        rfl
      · rw [List.length_append, hl]
        rfl
      · rcases List.mem_append.mp hx with e | e
        · exact hb x e
        · rw [List.mem_singleton.mp e]
          omega
    · obtain ⟨sH, dH, l, hL, hl, hb⟩ := hP
      refine .inl ⟨D, _, rfl, SqL.of hL, fun p hp2 => ?_⟩
      exact q p _ l (sH.trans (Sx.of (same_upd0 hp2))) (dH.same (same_upd0 hp2)) upd_same (by omega) hb
end
end K10

set_option Elab.async false
set_option linter.all false
set_option maxRecDepth 100000
/-! how large the entries of products are -/
namespace K10
/-- the sum of the first n absolute values -/
def sN : Nat → (Nat → Int) → Nat
  | 0, _ => 0
  | n + 1, f => sN n f + (f n).natAbs
/-- the sum of the absolute values of the entries -/
def nm (l : List Int) : Nat := (l.map Int.natAbs).sum
theorem sN_add (f g : Nat → Int) : ∀ n, sN n (fun k => f k + g k) ≤ sN n f + sN n g
  | 0 => Nat.le_refl _
  | n + 1 => by
    have h1 := sN_add f g n
    have h2 := Int.natAbs_add_le (f n) (g n)
    show sN n (fun k => f k + g k) + (f n + g n).natAbs ≤ sN n f + (f n).natAbs + (sN n g + (g n).natAbs)
    omega
theorem sN_mul (c : Int) (f : Nat → Int) : ∀ n, sN n (fun k => c * f k) = c.natAbs * sN n f
  | 0 => rfl
  | n + 1 => by
    show sN n (fun k => c * f k) + (c * f n).natAbs = c.natAbs * (sN n f + (f n).natAbs)
    rw [sN_mul c f n, Int.natAbs_mul, Nat.mul_add]
theorem sN_sh (f : Nat → Int) : ∀ n, sN n (sh f) ≤ sN n f
  | 0 => Nat.le_refl _
  | 1 => Nat.zero_le _
  | n + 2 => by
    have key : ∀ n, sN (n + 1) (sh f) = sN n f := by
      intro n
      induction n with
      | zero => rfl
      | succ n ih =>
        show sN (n + 1) (sh f) + (f n).natAbs = sN n f + (f n).natAbs
        rw [ih]
    rw [key]
    exact Nat.le_add_right _ _
theorem sN_cv (g : Nat → Int) (n : Nat) : ∀ l : List Int, sN n (cv l g) ≤ nm l * sN n g
  | [] => by
    have : sN n (cv [] g) = 0 := by
      induction n with
      | zero => rfl
      | succ n ih => show sN n (cv [] g) + (0 : Int).natAbs = 0; rw [ih]; rfl
    omega
  | x :: xs => by
    have h1 := sN_cv g n xs
    have e : sN n (cv (x :: xs) g) = sN n (fun k => x * g k + sh (cv xs g) k) := by
      rw [show cv (x :: xs) g = fun k => x * g k + sh (cv xs g) k from funext (cv_cons x xs g)]
    have h2 := sN_add (fun k => x * g k) (sh (cv xs g)) n
    have h3 := sN_sh (cv xs g) n
    rw [e]
    rw [sN_mul] at h2
    show _ ≤ (x.natAbs + nm xs) * sN n g
    rw [Nat.add_mul]
    omega
theorem nm_snoc (l : List Int) (x : Int) : nm (l ++ [x]) = nm l + x.natAbs := by
  unfold nm
  rw [List.map_append, List.sum_append]
  simp
theorem nm_tb (f : Nat → Int) : ∀ n, nm (tb n f) = sN n f
  | 0 => rfl
  | n + 1 => by
    have e : tb (n + 1) f = tb n f ++ [f n] := by
      unfold tb
      rw [List.range_succ, List.map_append]
      rfl
    rw [e, nm_snoc, nm_tb f n]
    rfl
theorem nm_mem : ∀ {l : List Int} {x : Int}, x ∈ l → x.natAbs ≤ nm l
  | y :: ys, x, h => by
    show x.natAbs ≤ y.natAbs + nm ys
    rcases List.mem_cons.mp h with e | e
    · rw [e]; omega
    · have := nm_mem e; omega
theorem sN_co (l : List Int) (n : Nat) : sN n (co l) ≤ nm l := by
  by_cases h : n ≤ l.length
  · have mono : ∀ k, sN n (co l) ≤ sN (n + k) (co l) := by
      intro k
      induction k with
      | zero => exact Nat.le_refl _
      | succ k ih => exact Nat.le_trans ih (Nat.le_add_right _ _)
    have h1 := mono (l.length - n)
    rw [show n + (l.length - n) = l.length by omega] at h1
    rw [← nm_tb (co l) l.length, tb_co] at h1
    exact h1
  · have far : ∀ k, sN (l.length + k) (co l) = sN l.length (co l) := by
      intro k
      induction k with
      | zero => rfl
      | succ k ih =>
        show sN (l.length + k) (co l) + (co l (l.length + k)).natAbs = _
        rw [ih, co_far (by omega)]
        rfl
    have h1 := far (n - l.length)
    rw [show l.length + (n - l.length) = n by omega] at h1
    rw [h1, ← nm_tb (co l) l.length, tb_co]
    exact Nat.le_refl _
theorem nm_ml (l m : List Int) : nm (ml l m) ≤ nm l * nm m := by
  unfold ml
  rw [nm_tb]
  exact Nat.le_trans (sN_cv _ _ l) (Nat.mul_le_mul (Nat.le_refl _) (sN_co m _))
theorem nm_pl : ∀ (l m : List Int), nm (pl l m) ≤ nm l + nm m
  | [], _ => Nat.zero_le _
  | _ :: _, [] => Nat.zero_le _
  | x :: xs, y :: ys => by
    have h1 := nm_pl xs ys
    have h2 := Int.natAbs_add_le x y
    show (x + y).natAbs + nm (pl xs ys) ≤ x.natAbs + nm xs + (y.natAbs + nm ys)
    omega
theorem nm_scale (c : Int) : ∀ l : List Int, nm (l.map (c * ·)) = c.natAbs * nm l
  | [] => rfl
  | x :: xs => by
    show (c * x).natAbs + nm (xs.map (c * ·)) = c.natAbs * (x.natAbs + nm xs)
    rw [nm_scale c xs, Int.natAbs_mul, Nat.mul_add]
theorem nm_le {b : Nat} : ∀ {l : List Int}, (∀ x ∈ l, x.natAbs ≤ b) → nm l ≤ l.length * b
  | [], _ => Nat.zero_le _
  | x :: xs, h => by
    have h1 := nm_le (l := xs) fun y hy => h y (List.mem_cons_of_mem _ hy)
    have h2 := h x List.mem_cons_self
    show x.natAbs + nm xs ≤ (xs.length + 1) * b
    rw [Nat.succ_mul]
    omega
end K10

set_option Elab.async false
set_option linter.all false
set_option maxRecDepth 100000
set_option maxHeartbeats 4000000
namespace K10
open PySem PySem.Spec PyProof.Rows L2 StX RZ MyR SlX OwnR OwnF EnumT
section
variable {P : Program} {w : World} {K : PySem.W.Frag} {mg : Str → Option Value} {base : Heap}
end
end K10

set_option Elab.async false
set_option linter.all false
set_option maxRecDepth 100000
set_option maxHeartbeats 4000000
namespace K10
open PySem PySem.Spec PyProof.Rows L2 StX RZ MyR SlX OwnR OwnF EnumT
/-- the product of the first i rows -/
def allP (ls : List (List Int)) (i : Nat) : List Int := (ls.take i).foldl ml [1]
theorem allP_succ {ls : List (List Int)} {i : Nat} (h : i < ls.length) : allP ls (i + 1) = ml (allP ls i) ls[i] := by
  unfold allP
  rw [List.take_add_one, List.getElem?_eq_getElem h, List.foldl_append]
  rfl
section
variable {P : Program} {w : World} {K : PySem.W.Frag} {mg : Str → Option Value} {base : Heap}
def spAll : Sp := fun vs H Q _ => ∃ (l : Addr) (rs : List Addr) (ls : List (List Int)), vs = [.ref l] ∧ H l = some (.lst (rs.map V.ref)) ∧ rs.length = ls.length ∧ (∀ i (h : i < ls.length) (h' : i < rs.length), H rs[i] = some (tp ls[i]) ∧ Rw ls[i]) ∧ (∀ i, i < ls.length → Rw (allP ls i)) ∧ ∀ p H', Same H H' → H' p = some (tp (allP ls ls.length)) → Q (.ref p) H'
theorem ok_law_all_product (T : Facts K mg) : FnOk P w K mg base CX0 2 T.f_law_all_product T.fd_law_all_product ["_law_forms"] spAll := by
  have G_law_product : FnOk P w K mg base CX0 1 T.f_law_product T.fd_law_product ["_law_one", "_law_other"] spProd := ok_law_product T
  refine T.F_law_all_product.ok sc_law_all_product (fun vs H Q E h => ?_) (fun cdv A outer s H vs Q E hr h => ?_)
  · obtain ⟨l, rs, ls, rfl, _⟩ := h
    rfl
  · obtain ⟨l, rs, ls, rfl, hl, hlen, hrow, hall, q⟩ := h
    refine ⟨_, (PSs.nox (pss_cons (ps_set (i := 1) sc_law_all_product.nd rfl (.inl rfl) (pe_tup (pa_cons pe_int pa_nil)))
    (pss_cons (ps_for PassesOwn.never (by rfl) (pi_list (pv 0)) (pg_name (i := 2) sc_law_all_product.nd rfl (.inl rfl))
      (pss_one (ps_set (i := 1) sc_law_all_product.nd rfl (.inl rfl) (pe_call G_law_product hr (by rfl) T.g_law_product T.F_law_product.kp T.b_law_product .nil pass0 (pa_cons (pv 1) (pa_cons (pv 2) pa_nil))))))
    (pss_one (ps_ret (pv 1)))))), ?_⟩
    refine ⟨(by show 1 ≤ sizeLine; decide), fun p0 n0 => ⟨_, rfl, l, rfl, ⟨_, SqL.of (same_upd0 n0 _ _ hl)⟩, for_list (xs := rs.map V.ref) (fun i σ H' => ∃ r y, σ = [some (.ref l), some (.ref r), y] ∧ Same H H' ∧ H' r = some (tp (allP ls i))) ⟨p0, none, rfl, same_upd0 n0, upd_same⟩ (fun i σ H' _ hP => ?_) (fun i x σ H' hx hP => ?_) (fun σ H' hP => ?_)⟩⟩
    · obtain ⟨r, y, _, sH, _⟩ := hP
      exact SqL.of (sH _ _ hl)
    · obtain ⟨r, y, rfl, sH, hr2⟩ := hP
      rw [List.getElem?_map] at hx
      obtain ⟨b, hb, rfl⟩ := Option.map_eq_some_iff.mp hx
      obtain ⟨h1, e1⟩ := List.getElem?_eq_some_iff.mp hb
      have h2 : i < ls.length := by omega
      obtain ⟨hb2, rb⟩ := hrow i h2 h1
      rw [e1] at hb2
      have ra := hall i h2
      exact ⟨_, rfl, _, rfl, r, b, _, ls[i], rfl, hr2, sH _ _ hb2, ra.ne, rb.ne, ra.len, rb.len, ra.sm, rb.sm, fun p H2 s2 _ hp2 => ⟨p, _, rfl, sH.trans s2, by rw [allP_succ h2]; exact hp2⟩⟩
    · obtain ⟨r, y, rfl, sH, hr2⟩ := hP
      rw [List.length_map, hlen] at hr2
      exact ⟨_, rfl, q r H' sH hr2⟩
end
end K10

set_option Elab.async false
set_option linter.all false
set_option maxRecDepth 100000
/-! the primitive row of a primitive row -/
namespace K10
end K10

set_option Elab.async false
set_option linter.all false
set_option maxRecDepth 100000
/-! sums of rows, rows of 0 -/
namespace K10
theorem zs_one : ∀ xs ys : List Int, zs 1 xs ys = pl xs ys
  | [], _ => rfl
  | _ :: _, [] => rfl
  | x :: xs, y :: ys => by
    show (x + 1 * y) :: zs 1 xs ys = (x + y) :: pl xs ys
    rw [zs_one xs ys, Int.one_mul]
theorem map_mul_comm (c : Int) (l : List Int) : (l.map fun x => x * c) = l.map fun x => c * x := List.map_congr_left fun x _ => Int.mul_comm x c
end K10

set_option Elab.async false
set_option linter.all false
set_option maxRecDepth 100000
set_option maxHeartbeats 4000000
namespace K10
open PySem PySem.Spec PyProof.Rows L2 StX RZ MyR SlX OwnR OwnF EnumT
/-! ### drawn forms -/
/-- a row of a degree, with its size -/
structure Bd (l : List Int) (n b : Nat) : Prop where
  len : l.length = n + 1
  nm : nm l ≤ b
theorem Bd.ne {l : List Int} {n b : Nat} (h : Bd l n b) : l ≠ [] := fun e => by
  have := h.len
  rw [e] at this
  cases this
theorem Bd.mono {l : List Int} {n b c : Nat} (h : Bd l n b) (k : b ≤ c) : Bd l n c := ⟨h.len, Nat.le_trans h.nm k⟩
theorem Bd.mem {l : List Int} {n b : Nat} (h : Bd l n b) : ∀ x ∈ l, x.natAbs ≤ b := fun x hx => Nat.le_trans (nm_mem hx) h.nm
theorem Bd.rw {l : List Int} {n b : Nat} (h : Bd l n b) (hn : n ≤ 99) (hb : b < 2 ^ 400) : Rw l := ⟨h.ne, by rw [h.len]; omega, fun x hx => Nat.lt_of_le_of_lt (h.mem x hx) hb⟩
theorem bd_ml {l m : List Int} {n k b c : Nat} (h : Bd l n b) (g : Bd m k c) : Bd (ml l m) (n + k) (b * c) :=
  ⟨by rw [ml_len, h.len, g.len]; omega, Nat.le_trans (nm_ml l m) (Nat.mul_le_mul h.nm g.nm)⟩
theorem bd_one : Bd [1] 0 1 := ⟨rfl, Nat.le_refl _⟩
theorem bd_line {u v : Int} {m : Nat} (hu : u.natAbs ≤ m) (hv : v.natAbs ≤ m) : Bd [v, 0 - u] 1 (2 * m) := ⟨rfl, by
  show v.natAbs + ((0 - u).natAbs + 0) ≤ _
  omega⟩
theorem bd_pair {u v : Int} {m : Nat} (hu : u.natAbs ≤ m) (hv : v.natAbs ≤ m) : Bd [u, v] 1 (2 * m) := ⟨rfl, by
  show u.natAbs + (v.natAbs + 0) ≤ _
  omega⟩
theorem bd_small {l : List Int} {n m : Nat} (hl : l.length = n + 1) (h : ∀ x ∈ l, x.natAbs ≤ m) : Bd l n ((n + 1) * m) := ⟨hl, by
  have := nm_le h
  rw [hl] at this
  exact this⟩
theorem bd_pow {l : List Int} {b : Nat} (h : Bd l 1 b) : ∀ i, Bd (pow l i) i (b ^ i)
  | 0 => bd_one
  | i + 1 => by
    rw [Nat.pow_succ]
    exact bd_ml (bd_pow h i) h
theorem bd_all {ls : List (List Int)} {b : Nat} (h : ∀ l ∈ ls, Bd l 1 b) : ∀ i, i ≤ ls.length → Bd (allP ls i) i (b ^ i)
  | 0, _ => bd_one
  | i + 1, hi => by
    rw [Nat.pow_succ, allP_succ hi]
    exact bd_ml (bd_all h i (by omega)) (h _ (List.getElem_mem hi))
theorem bd_zs {l m : List Int} {n b c : Nat} (h : Bd l n b) (g : Bd m n c) : Bd (zs 1 l m) n (b + c) := by
  rw [zs_one]
  exact ⟨by rw [pl_len (by rw [h.len, g.len]), h.len], Nat.le_trans (nm_pl l m) (Nat.add_le_add h.nm g.nm)⟩
theorem bd_scale {l : List Int} {n b d : Nat} {c : Int} (h : Bd l n b) (hc : c.natAbs ≤ d) : Bd (l.map (c * ·)) n (d * b) := ⟨by rw [List.length_map, h.len], by
  rw [nm_scale]
  exact Nat.mul_le_mul hc h.nm⟩
theorem p6 {i : Nat} (h : i ≤ 8) : 6 ^ i ≤ 1679616 := Nat.le_trans (Nat.pow_le_pow_right (by decide) h) (by decide)
theorem iteI {i j : Int} {A B : Prop} (h1 : i = j → A) (h2 : i ≠ j → B) : if decide (V.int i = V.int j) = true then A else B := by
  by_cases h : i = j
  · rw [decide_eq_true (by rw [h])]
    exact iteT (h1 h)
  · rw [decide_eq_false fun z => h (V.int.inj z)]
    exact iteF (h2 h)
section
variable {P : Program} {w : World} {K : PySem.W.Frag} {mg : Str → Option Value} {base : Heap}
def spDrawn : Sp := fun vs H Q _ => ∃ (d : Addr) (n : Nat), vs = [.ref d, .int n] ∧ Dc H d ∧ n ≤ 8 ∧ ∀ p H' l, Sx d H H' → Dc H' d → H' p = some (tp l) → Bd l n (10 ^ 14) → Q (.ref p) H'
theorem ok_law_form (T : Facts K mg) : FnOk P w K mg base CX0 5 T.f_law_form T.fd_law_form ["_law_dice_here", "_law_degree"] spDrawn := by
  have G_law_roll : FnOk P w K mg base CX0 1 T.f_law_roll T.fd_law_roll ["_law_dice_here", "_law_total"] spRoll2 := (ok_law_roll T).imp roll2
  have G_law_near : FnOk P w K mg base CX0 2 T.f_law_near T.fd_law_near ["_law_dice_here", "_law_most"] spNear := ok_law_near T
  have G_law_plus := ok_law_plus (P := P) (w := w) (base := base) T
  have G_law_scaled := ok_law_scaled (P := P) (w := w) (base := base) T
  have G_law_product := ok_law_product (P := P) (w := w) (base := base) T
  have G_law_all_product := ok_law_all_product (P := P) (w := w) (base := base) T
  have G_law_power := ok_law_power (P := P) (w := w) (base := base) T
  have G_law_line := ok_law_line (P := P) (w := w) (base := base) T
  have G_law_point := ok_law_point (P := P) (w := w) (base := base) T
  have G_law_small_form := ok_law_small_form (P := P) (w := w) (base := base) T
  refine T.F_law_form.ok sc_law_form (fun vs H Q E h => ?_) (fun cdv A outer s H vs Q E hr h => ?_)
  · obtain ⟨d, n, rfl, _⟩ := h
    rfl
  · obtain ⟨d, n, rfl, hd, hn, q⟩ := h
    have e15 : (10 : Int) ^ 15 = 1000000000000000 := by decide
    have e14 : (10 : Nat) ^ 14 = 100000000000000 := by decide
    rw [e14] at q
    have lg : ∀ i : Nat, i < 100 → (i : Int).natAbs.log2 < 9000 := fun i hi => Nat.lt_trans (PySem.Flt.log2_lt_of (k := 10) (by decide) (by show i < 2 ^ 10; omega)) (by decide)
    refine ⟨_, (PSs.nox (pss_cons (ps_set (i := 2) sc_law_form.nd rfl (.inl rfl) (pe_call G_law_roll (hr.mono (by decide)) (by rfl) T.g_law_roll T.F_law_roll.kp T.b_law_roll .nil pass0 (pa_cons (pv 0) (pa_cons pe_int pa_nil))))
    (pss_cons (ps_if (pt_cmpR op_eq (pv 2) pe_int (nomark _))
      (pss_one (ps_ret (pe_call G_law_all_product (hr.mono (by decide)) (by rfl) T.g_law_all_product T.F_law_all_product.kp T.b_law_all_product .nil pass0 (pa_cons (pe_lc (own := [("_law_turn", 3)]) (g := (gName 3)) (tt := tYes) (by rfl) sc_law_form.nd (pi_range1 (by rfl) T.z_range (pa_cons (pv 1) pa_nil)) (blkOk_by (N := N_law_form) (sc := defScope s_law_form) (by decide +kernel)) (fun _ _ _ _ _ => (pg_name (i := 3) sc_law_form.nd rfl (.inl rfl))) (fun _ _ _ _ _ => pts_nil) (fun _ _ _ _ _ => (pe_call G_law_line (hr.mono (by decide)) (by rfl) T.g_law_line T.F_law_line.kp T.b_law_line .nil pass0 (pa_cons (pe_call G_law_point hr (by rfl) T.g_law_point T.F_law_point.kp T.b_law_point .nil pass0 (pa_cons (pv 0) (pa_cons pe_int pa_nil))) pa_nil)))) pa_nil))))
      pss_nil)
    (pss_cons (ps_if (pt_cmpR op_eq (pv 2) pe_int (nomark _))
      (pss_cons (ps_par (i := 4) (j := 5) (by rfl) sc_law_form.nd rfl rfl (by decide) rfl rfl (pa_cons (pe_call G_law_line (hr.mono (by decide)) (by rfl) T.g_law_line T.F_law_line.kp T.b_law_line .nil pass0 (pa_cons (pe_call G_law_point hr (by rfl) T.g_law_point T.F_law_point.kp T.b_law_point .nil pass0 (pa_cons (pv 0) (pa_cons pe_int pa_nil))) pa_nil)) (pa_cons (pe_call G_law_roll (hr.mono (by decide)) (by rfl) T.g_law_roll T.F_law_roll.kp T.b_law_roll .nil pass0 (pa_cons (pv 0) (pa_cons (pe_op op_add (pv 1) pe_int) pa_nil))) pa_nil)) (by rfl))
      (pss_one (ps_ret (pe_call G_law_product (hr.mono (by decide)) (by rfl) T.g_law_product T.F_law_product.kp T.b_law_product .nil pass0 (pa_cons (pe_call G_law_power (hr.mono (by decide)) (by rfl) T.g_law_power T.F_law_power.kp T.b_law_power .nil pass0 (pa_cons (pv 4) (pa_cons (pv 5) pa_nil))) (pa_cons (pe_call G_law_small_form (hr.mono (by decide)) (by rfl) T.g_law_small_form T.F_law_small_form.kp T.b_law_small_form .nil pass0 (pa_cons (pv 0) (pa_cons (pe_op op_sub (pv 1) (pv 5)) (pa_cons pe_int pa_nil)))) pa_nil))))))
      pss_nil)
    (pss_cons (ps_if (pt_cmpR op_eq (pv 2) pe_int (nomark _))
      (pss_cons (ps_set (i := 6) sc_law_form.nd rfl (.inl rfl) (pe_tupleOf (by rfl) T.z_tuple (pe_lc (own := [("_law_place", 7)]) (g := (gName 7)) (tt := tYes) (by rfl) sc_law_form.nd (pi_range1 (by rfl) T.z_range (pa_cons (pe_op op_add (pv 1) pe_int) pa_nil)) (blkOk_by (N := N_law_form) (sc := defScope s_law_form) (by decide +kernel)) (fun _ _ _ _ _ => (pg_name (i := 7) sc_law_form.nd rfl (.inl rfl))) (fun _ _ _ _ _ => pts_nil) (fun _ _ _ _ _ => pe_int))))
      (pss_cons (ps_for PassesOwn.never (by rfl) (pi_range1 (by rfl) T.z_range (pa_cons (pe_op op_add pe_int (pe_call G_law_roll (hr.mono (by decide)) (by rfl) T.g_law_roll T.F_law_roll.kp T.b_law_roll .nil pass0 (pa_cons (pv 0) (pa_cons pe_int pa_nil)))) pa_nil)) (pg_name (i := 3) sc_law_form.nd rfl (.inl rfl))
        (pss_one (ps_set (i := 6) sc_law_form.nd rfl (.inl rfl) (pe_call G_law_plus (hr.mono (by decide)) (by rfl) T.g_law_plus T.F_law_plus.kp T.b_law_plus .nil pass0 (pa_cons (pv 6) (pa_cons (pe_call G_law_scaled (hr.mono (by decide)) (by rfl) T.g_law_scaled T.F_law_scaled.kp T.b_law_scaled .nil pass0 (pa_cons (pe_call G_law_power (hr.mono (by decide)) (by rfl) T.g_law_power T.F_law_power.kp T.b_law_power .nil pass0 (pa_cons (pe_call G_law_point hr (by rfl) T.g_law_point T.F_law_point.kp T.b_law_point .nil pass0 (pa_cons (pv 0) (pa_cons pe_int pa_nil))) (pa_cons (pv 1) pa_nil))) (pa_cons (pe_call G_law_near (hr.mono (by decide)) (by rfl) T.g_law_near T.F_law_near.kp T.b_law_near .nil pass0 (pa_cons (pv 0) (pa_cons pe_int pa_nil))) pa_nil))) pa_nil))))))
      (pss_one (ps_ret (pv 6)))))
      pss_nil)
    (pss_cons (ps_if (pt_cmpR op_eq (pv 2) pe_int (nomark _))
      (pss_one (ps_ret (pe_tupleOf (by rfl) T.z_tuple (pe_lc (own := [("_law_place", 7)]) (g := (gName 7)) (tt := tYes) (by rfl) sc_law_form.nd (pi_range1 (by rfl) T.z_range (pa_cons (pe_op op_add (pv 1) pe_int) pa_nil)) (blkOk_by (N := N_law_form) (sc := defScope s_law_form) (by decide +kernel)) (fun _ _ _ _ _ => (pg_name (i := 7) sc_law_form.nd rfl (.inl rfl))) (fun _ _ _ _ _ => pts_nil) (fun _ _ _ _ _ => (pe_op op_mulW (pe_call G_law_near (hr.mono (by decide)) (by rfl) T.g_law_near T.F_law_near.kp T.b_law_near .nil pass0 (pa_cons (pv 0) (pa_cons pe_int pa_nil))) (pe_call G_law_roll (hr.mono (by decide)) (by rfl) T.g_law_roll T.F_law_roll.kp T.b_law_roll .nil pass0 (pa_cons (pv 0) (pa_cons pe_int pa_nil)))))))))
      pss_nil)
    (pss_cons (ps_if (pw_and (pt_cmpR op_eq (pv 2) pe_int (nomark _)) (pw_and1 (pt_cmpR op_eq (pe_call G_law_roll (hr.mono (by decide)) (by rfl) T.g_law_roll T.F_law_roll.kp T.b_law_roll .nil pass0 (pa_cons (pv 0) (pa_cons pe_int pa_nil))) pe_int (nomark _)))).pt
      (pss_one (ps_ret (pe_tupleOf (by rfl) T.z_tuple (pe_lc (own := [("_law_place", 7)]) (g := (gName 7)) (tt := tYes) (by rfl) sc_law_form.nd (pi_range1 (by rfl) T.z_range (pa_cons (pe_op op_add (pv 1) pe_int) pa_nil)) (blkOk_by (N := N_law_form) (sc := defScope s_law_form) (by decide +kernel)) (fun _ _ _ _ _ => (pg_name (i := 7) sc_law_form.nd rfl (.inl rfl))) (fun _ _ _ _ _ => pts_nil) (fun _ _ _ _ _ => (pe_call G_law_near (hr.mono (by decide)) (by rfl) T.g_law_near T.F_law_near.kp T.b_law_near .nil pass0 (pa_cons (pv 0) (pa_cons (pe_op op_pow pe_int pe_int) pa_nil))))))))
      pss_nil)
    (pss_one (ps_ret (pe_call G_law_small_form (hr.mono (by decide)) (by rfl) T.g_law_small_form T.F_law_small_form.kp T.b_law_small_form .nil pass0 (pa_cons (pv 0) (pa_cons (pv 1) (pa_cons pe_int pa_nil))))))))))))), ?_⟩
    refine ⟨_, rfl, d, 6, rfl, hd, by decide, lg 6 (by decide), fun r H1 hr1 s1 d1 => ⟨_, rfl, rfl, _, rfl, iteI (fun _ => ?_) (fun r0 => ⟨_, rfl, rfl, _, rfl, iteI (fun _ => ?_) (fun r1 => ⟨_, rfl, rfl, _, rfl, iteI (fun _ => ?_) (fun r2 => ⟨_, rfl, rfl, _, rfl, iteI (fun _ => ?_) (fun r3 => ?_)⟩)⟩)⟩)⟩⟩
    · -- lines
      refine ⟨_, rfl, n, rfl, by omega, by omega, fun D hD => lc_range (n := (n : Int).toNat) (fun j H' => Sx d H H' ∧ Dc H' d ∧ ∃ (rs : List Addr) (ls : List (List Int)), H' D = some (.lst (rs.map V.ref)) ∧ rs.length = j ∧ ls.length = j ∧ (∀ i (h : i < ls.length) (h' : i < rs.length), H' rs[i] = some (tp ls[i])) ∧ ∀ l ∈ ls, Bd l 1 6) ⟨s1.trans (Sx.of (same_upd0 hD)), d1.same (same_upd0 hD), [], [], upd_same, rfl, rfl, fun i h _ => absurd h (Nat.not_lt_zero i), fun l h => (nomatch h)⟩ (fun j H' hj hP => ?_) (fun H' hP => ?_)⟩
      · obtain ⟨sH, dH, rs, ls, hL, hl1, hl2, hr, hb⟩ := hP
        refine ⟨rfl, _, rfl, d, 3, rfl, dH, by decide, by decide, fun p H2 u v s2 d2 hp hu hv => ⟨p, u, v, rfl, hp, fun p2 n2 => gen_upd H2 p2 _ n2 fun H3 s3 f3 => ?_⟩⟩
        have nD : D ≠ d := d1.ne hD
        have hL3 := s3 _ _ (s2 D _ nD hL)
        have dD : ∀ a l, H3 a = some (tp l) → a ≠ D := fun a l e z => by
          rw [z, hL3] at e
          cases e
        have d3 := d2.same s3
        refine ⟨_, hL3, by rw [List.length_map, hl1]; exact small1000 (by omega), fun b o hb2 e => ?_, ?_, rs ++ [p2], ls ++ [[v, 0 - u]], by rw [upd_same, List.map_append]; rfl, by rw [List.length_append, hl1]; rfl, by rw [List.length_append, hl2]; rfl, fun i h h' => ?_, fun l hl => ?_⟩
        · rw [upd_ne (ne_of_none (s1 b o hb2 e) hD)]
          exact s3 _ _ (s2 b o hb2 (sH b o hb2 e))
        · obtain ⟨x, y, z, e⟩ := d3
          exact ⟨x, y, z, by rw [upd_ne (Ne.symm nD)]; exact e⟩
        · by_cases c : i < ls.length
          · have e1 : (rs ++ [p2])[i] = rs[i]'(by omega) := List.getElem_append_left _
            have e2 : (ls ++ [[v, 0 - u]])[i] = ls[i] := List.getElem_append_left _
            rw [e1, e2]
            have e3 := s3 _ _ (s2 _ _ (dc_ne dH (hr i c (by omega))) (hr i c (by omega)))
            rw [upd_ne (dD _ _ e3)]
            exact e3
          · have ei : i = ls.length := by rw [List.length_append] at h; simp at h; omega
            subst ei
            have e1 : (rs ++ [p2])[ls.length] = p2 := by rw [List.getElem_append_right (by omega)]; simp [hl1, hl2]
            have e2 : (ls ++ [[v, 0 - u]])[ls.length] = [v, 0 - u] := by rw [List.getElem_append_right (by omega)]; simp
            rw [e1, e2, upd_ne (dD _ _ f3)]
            exact f3
        · rcases List.mem_append.mp hl with e | e
          · exact hb l e
          · rw [List.mem_singleton.mp e]
            exact bd_line hu hv
      · obtain ⟨sH, dH, rs, ls, hL, hl1, hl2, hr, hb⟩ := hP
        have hnn : ls.length = n := by omega
        refine ⟨D, rs, ls, rfl, hL, by omega, fun i h h' => ⟨hr i h h', (hb _ (List.getElem_mem h)).rw (by omega) (by decide)⟩, fun i hi => (bd_all hb i (by omega)).rw (by omega) (Nat.lt_of_le_of_lt (p6 (by omega)) (by decide)), fun p H3 s3 f3 => q p H3 _ (sH.trans (Sx.of s3)) (dH.same s3) f3 ?_⟩
        rw [hnn]
        exact (bd_all hb n (by omega)).mono (Nat.le_trans (p6 hn) (by decide))
    · -- a power of a line, times
      refine ⟨_, rfl, d, 3, rfl, d1, by decide, by decide, fun p H2 u v s2 d2 hp hu hv => ⟨p, u, v, rfl, hp, fun p2 n2 => gen_upd H2 p2 _ n2 fun H3 s3 f3 => ⟨_, rfl, _, rfl, _, _, rfl, rfl, ?_⟩⟩⟩
      have d3 := d2.same s3
      refine ⟨d, _, rfl, d3, by omega, lg (n + 1) (by omega), fun k H4 hk s4 d4 => ⟨_, _, rfl, ?_⟩⟩
      have hk' : k ≤ n := by have : (k : Int) < (n : Int) + 1 := hk; omega
      have f4 := s4 _ _ (dc_ne d3 f3) f3
      have bl : Bd [v, 0 - u] 1 6 := bd_line hu hv
      refine ⟨_, rfl, _, rfl, p2, _, k, rfl, f4, bl.ne, by show 2 ≤ 100; decide, fun x hx => (bl.rw (by decide) (Nat.lt_of_lt_of_le (show 6 < 2 ^ 4 by decide) (Nat.pow_le_pow_right (by decide) (by decide)))).sm x hx, fun i hi => ?_, by omega, fun p5 H5 s5 f5 => ?_⟩
      · have := (bd_pow bl i).rw (by omega) (Nat.lt_of_le_of_lt (p6 (by omega)) (by decide))
        exact ⟨this.ne, this.len, this.sm⟩
      · have d5 := d4.same s5
        refine ⟨_, rfl, _, rfl, _, rfl, _, _, rfl, rfl, d, n - k, 4, by show [V.ref d, V.int ((n : Int) - (k : Int)), V.int 4] = [V.ref d, V.int ((n - k : Nat) : Int), V.int 4]; rw [Int.ofNat_sub hk'], d5, by omega, by decide, fun p6' H6 l6 s6 d6 f6 hl6 hm6 => ?_⟩
        have f5' := s6 _ _ (dc_ne d5 f5) f5
        have b1 := bd_pow bl k
        have b2 := bd_small hl6 hm6
        have r1 := b1.rw (by omega) (Nat.lt_of_le_of_lt (p6 (by omega)) (by decide))
        have r2 := b2.rw (by omega) (Nat.lt_of_le_of_lt (show (n - k + 1) * 4 ≤ 36 by omega) (by decide))
        refine ⟨p5, p6', _, l6, rfl, f5', f6, r1.ne, r2.ne, r1.len, r2.len, r1.sm, r2.sm, fun p7 H7 s7 _ f7 => q p7 H7 _ ((((s1.trans s2).trans (Sx.of s3)).trans s4).trans (((Sx.of s5).trans s6).trans (Sx.of s7))) (d6.same s7) f7 ?_⟩
        have b3 := bd_ml b1 b2
        rw [show k + (n - k) = n by omega] at b3
        exact b3.mono (Nat.le_trans (Nat.mul_le_mul (p6 (by omega)) (show (n - k + 1) * 4 ≤ 36 by omega)) (by decide))
    · -- sums of powers
      refine ⟨_, rfl, _, _, rfl, rfl, _, rfl, by show -(2 ^ 62) ≤ (n : Int) + 1; omega, by show (n : Int) + 1 < 2 ^ 62; omega, fun D hD => lc_range (n := ((n : Int) + 1).toNat) (fun j H' => H' = upd H1 D (.lst (tab j fun _ => 0))) rfl (fun j H' hj hP => ?_) (fun H' hP => ?_)⟩
      · subst hP
        refine ⟨rfl, ⟨_, upd_same, by rw [tab_len]; exact small1000 (by omega), ?_⟩⟩
        rw [upd_upd, ← tab_snoc]
      · subst hP
        rw [show ((n : Int) + 1).toNat = n + 1 by omega, tab_tb]
        refine .inl ⟨D, _, rfl, SqL.of upd_same, fun p hp => gen_upd (upd H1 D _) p _ hp fun H2 s2 f2 => ?_⟩
        have s02 := (same_upd0 (o := HO.lst ((tb (n + 1) fun _ => 0).map V.int)) hD).trans s2
        have d2 := d1.same s02
        have b0 : Bd (tb (n + 1) fun _ => 0) n 0 := ⟨tb_len _ _, by
          rw [nm_tb]
          have : ∀ k, sN k (fun _ => 0) = 0 := by
            intro k
            induction k with
            | zero => rfl
            | succ k ih => show sN k (fun _ => 0) + 0 = 0; rw [ih]
          rw [this]
          exact Nat.le_refl _⟩
        refine ⟨_, rfl, d, 3, rfl, d2, by decide, lg 3 (by decide), fun k H3 hk s3 d3 => ⟨_, _, rfl, rfl, _, rfl, by omega, by omega, ?_⟩⟩
        have f3 := s3 _ _ (dc_ne d2 f2) f2
        have hk3 : (k : Int) < 3 := hk
        refine for_range (n := (1 + (k : Int)).toNat) (fun i σ H' => ∃ r y3 y4 y5 y7 l, σ = [some (.ref d), some (.int n), some (.int (r : Int)), y3, y4, y5, some (.ref y7), none] ∧ Sx d H1 H' ∧ Dc H' d ∧ H' y7 = some (tp l) ∧ Bd l n (i * 6718464)) ⟨_, _, _, _, _, _, rfl, (Sx.of s02).trans s3, d3, f3, b0.mono (Nat.zero_le _)⟩ (fun i σ H' hi hP => ?_) (fun σ H' hP => ?_)
        · obtain ⟨r', y3, y4, y5, y7, l, rfl, sH, dH, hl, bl⟩ := hP
          refine ⟨_, rfl, _, rfl, d, 3, rfl, dH, by decide, by decide, fun p4 H4 u v s4 d4 h4 hu hv => ⟨_, rfl, ?_⟩⟩
          have bp : Bd [u, v] 1 6 := bd_pair hu hv
          refine ⟨p4, _, n, rfl, h4, bp.ne, by show 2 ≤ 100; decide, fun x hx => (bp.rw (by decide) (Nat.lt_of_lt_of_le (show 6 < 2 ^ 4 by decide) (Nat.pow_le_pow_right (by decide) (by decide)))).sm x hx, fun i hi => ?_, by omega, fun p5 H5 s5 f5 => ?_⟩
          · have := (bd_pow bp i).rw (by omega) (Nat.lt_of_le_of_lt (p6 (by omega)) (by decide))
            exact ⟨this.ne, this.len, this.sm⟩
          · have d5 := d4.same s5
            have b5 := bd_pow bp n
            have r5 := b5.rw (by omega) (Nat.lt_of_le_of_lt (p6 (by omega)) (by decide))
            refine ⟨_, rfl, d, 4, rfl, d5, by decide, by rw [e15]; decide, fun c H6 c1 c2 s6 d6 => ?_⟩
            have f6 := s6 _ _ (dc_ne d5 f5) f5
            refine ⟨p5, _, c, rfl, f6, r5.len, r5.sm, Nat.lt_of_le_of_lt (show c.natAbs ≤ 4 by omega) (by decide), fun p7 H7 s7 _ f7 => ?_⟩
            have b7 := bd_scale (d := 4) b5 (show c.natAbs ≤ 4 by omega)
            have hl7 := s7 _ _ (s6 _ _ (dc_ne d5 (s5 _ _ (s4 _ _ (dc_ne dH hl) hl))) (s5 _ _ (s4 _ _ (dc_ne dH hl) hl)))
            refine ⟨_, p7, l, _, rfl, hl7, f7, by rw [bl.len, b7.len], by rw [bl.len]; omega, fun p8 H8 s8 _ f8 => ⟨_, _, _, _, p8, _, rfl, ((sH.trans s4).trans ((Sx.of s5).trans s6)).trans ((Sx.of s7).trans (Sx.of s8)), (d6.same s7).same s8, f8, (bd_zs bl b7).mono ?_⟩⟩
            have : 4 * 6 ^ n ≤ 4 * 1679616 := Nat.mul_le_mul (Nat.le_refl _) (p6 hn)
            rw [Nat.succ_mul]
            omega
        · obtain ⟨r', y3, y4, y5, y7, l, rfl, sH, dH, hl, bl⟩ := hP
          exact ⟨_, rfl, q y7 H' l (s1.trans sH) dH hl (bl.mono (by omega))⟩
    · -- some entries, some zeros
      refine ⟨_, rfl, _, _, rfl, rfl, _, rfl, by show -(2 ^ 62) ≤ (n : Int) + 1; omega, by show (n : Int) + 1 < 2 ^ 62; omega, fun D hD => lc_range (n := ((n : Int) + 1).toNat) (fun j H' => Sx d H1 H' ∧ Dc H' d ∧ ∃ l : List Int, H' D = some (.lst (l.map V.int)) ∧ l.length = j ∧ ∀ x ∈ l, x.natAbs ≤ 3) ⟨Sx.of (same_upd0 hD), d1.same (same_upd0 hD), [], upd_same, rfl, fun x hx => by cases hx⟩ (fun j H' hj hP => ?_) (fun H' hP => ?_)⟩
      · obtain ⟨sH, dH, l, hL, hl, hb⟩ := hP
        have nD : D ≠ d := d1.ne hD
        refine ⟨rfl, _, rfl, d, 3, rfl, dH, by decide, by rw [e15]; decide, fun c H2 c1 c2 s2 d2 => ⟨_, rfl, d, 2, rfl, d2, by decide, lg 2 (by decide), fun k H3 hk s3 d3 => ⟨_, _, rfl, rfl, sm_mul (Nat.lt_of_le_of_lt (show c.natAbs ≤ 3 by omega) (by decide)) (Nat.lt_of_le_of_lt (show ((k : Nat) : Int).natAbs ≤ 2 by have : (k : Int) < 2 := hk; omega) (by decide)), _, s3 D _ nD (s2 D _ nD hL), ?_, fun b o hb2 e => ?_, ?_, l ++ [c * (k : Int)], ?_, ?_, fun x hx => ?_⟩⟩⟩
        · rw [List.length_map]
          exact small1000 (by omega)
        · rw [upd_ne (ne_of_none e hD)]
          exact (sH.trans (s2.trans s3)) b o hb2 e
        · obtain ⟨x, y, z, e⟩ := d3
          exact ⟨x, y, z, by rw [upd_ne (Ne.symm nD)]; exact e⟩
        · rw [upd_same, List.map_append]
          rfl
        · rw [List.length_append, hl]
          rfl
        · rcases List.mem_append.mp hx with e | e
          · exact hb x e
          · rw [List.mem_singleton.mp e]
            have hk2 : (k : Int) < 2 := hk
            rw [Int.natAbs_mul]
            have := Nat.mul_le_mul (show c.natAbs ≤ 3 by omega) (show ((k : Nat) : Int).natAbs ≤ 1 by omega)
            omega
      · obtain ⟨sH, dH, l, hL, hl, hb⟩ := hP
        refine .inl ⟨D, _, rfl, SqL.of hL, fun p hp2 => ?_⟩
        exact q p _ l (s1.trans (sH.trans (Sx.of (same_upd0 hp2)))) (dH.same (same_upd0 hp2)) upd_same ((bd_small (n := n) (by omega) hb).mono (Nat.le_trans (Nat.mul_le_mul (show n + 1 ≤ 9 by omega) (Nat.le_refl _)) (by decide)))
    · -- great entries, or small ones
      have small : ∀ H2, Sx d H H2 → Dc H2 d → spSmall [V.ref d, V.int (n : Int), V.int 6] H2 Q E0 := fun H2 s2 d2 => ⟨d, n, 6, rfl, d2, by omega, by decide, fun p H3 l s3 d3 f3 hl hm => q p H3 l (s2.trans s3) d3 f3 ((bd_small hl hm).mono (by omega))⟩
      refine ⟨_, rfl, rfl, _, rfl, iteI (fun _ => ?_) (fun _ => ?_)⟩
      · refine ⟨_, rfl, d, 4, rfl, d1, by decide, lg 4 (by decide), fun k H2 hk s2 d2 => ⟨rfl, _, rfl, iteI (fun _ => ?_) (fun _ => ?_)⟩⟩
        · -- great entries
          refine ⟨_, rfl, _, _, rfl, rfl, _, rfl, by show -(2 ^ 62) ≤ (n : Int) + 1; omega, by show (n : Int) + 1 < 2 ^ 62; omega, fun D hD => lc_range (n := ((n : Int) + 1).toNat) (fun j H' => Sx d H2 H' ∧ Dc H' d ∧ ∃ l : List Int, H' D = some (.lst (l.map V.int)) ∧ l.length = j ∧ ∀ x ∈ l, x.natAbs ≤ 1000000000000) ⟨Sx.of (same_upd0 hD), d2.same (same_upd0 hD), [], upd_same, rfl, fun x hx => by cases hx⟩ (fun j H' hj hP => ?_) (fun H' hP => ?_)⟩
          · obtain ⟨sH, dH, l, hL, hl, hb⟩ := hP
            have nD : D ≠ d := d2.ne hD
            refine ⟨rfl, _, rfl, 10, 12, rfl, rfl, ⟨by decide, by decide, by decide⟩, d, 1000000000000, rfl, dH, by decide, by rw [e15]; decide, fun r H2 r1 r2 s2 d2 => ⟨_, s2 D _ nD hL, ?_, fun b o hb2 e => ?_, ?_, l ++ [r], ?_, ?_, fun x hx => ?_⟩⟩
            · rw [List.length_map]
              exact small1000 (by omega)
            · rw [upd_ne (ne_of_none e hD)]
              exact (sH.trans s2) b o hb2 e
            · obtain ⟨x, y, z, e⟩ := d2
              exact ⟨x, y, z, by rw [upd_ne (Ne.symm nD)]; exact e⟩
            · rw [upd_same, List.map_append]
              rfl
            · rw [List.length_append, hl]
              rfl
            · rcases List.mem_append.mp hx with e | e
              · exact hb x e
              · rw [List.mem_singleton.mp e]
                omega
          · obtain ⟨sH, dH, l, hL, hl, hb⟩ := hP
            refine .inl ⟨D, _, rfl, SqL.of hL, fun p hp2 => ?_⟩
            exact q p _ l ((s1.trans s2).trans (sH.trans (Sx.of (same_upd0 hp2)))) (dH.same (same_upd0 hp2)) upd_same ((bd_small (n := n) (by omega) hb).mono (Nat.le_trans (Nat.mul_le_mul (show n + 1 ≤ 9 by omega) (Nat.le_refl _)) (by decide)))
        · exact ⟨_, rfl, _, rfl, small H2 (s1.trans s2) d2⟩
      · exact ⟨_, rfl, _, rfl, small H1 s1 d1⟩
end
end K10

set_option Elab.async false
set_option linter.all false
set_option maxRecDepth 100000
set_option maxHeartbeats 4000000
namespace K10
open PySem PySem.Spec PyProof.Rows L2 StX RZ MyR SlX OwnR OwnF EnumT
/-! what is said of forms by those who use them (for other laws: K10u, K10v, K10y hold the same) -/
section
variable {P : Program} {w : World} {K : PySem.W.Frag} {mg : Str → Option Value} {base : Heap}
def spLaw (K : PySem.W.Frag) : Sp := fun vs H Q _ => ∃ (a : Addr) (ns : List Int), vs = [.ref a] ∧ SqL K H a (ns.map V.int) ∧ ns.length ≤ 63 ∧ ∀ H', Q (.bl true) H'
/-- what is asked of a told row -/
structure Tr (l : List Int) : Prop where
  ne : l ≠ []
  len : l.length ≤ 40
  sho : ∀ x ∈ l, Sho x
theorem Tr.rw {l : List Int} (h : Tr l) : Rw l := ⟨h.ne, by have := h.len; omega, fun x hx => Nat.lt_trans (h.sho x hx) (by decide)⟩
theorem Tr.pos {l : List Int} (h : Tr l) : 1 ≤ l.length := List.length_pos_iff.mpr h.ne
theorem notFirst_self {K : PySem.W.Frag} {C : Addr} : PySem.W.notFirst K C (.ref C) = true := by
  unfold PySem.W.notFirst
  rw [beq_self_eq_true]
  rfl
/-- Form(t) -/
theorem made_form {C x dx t : Addr} {l : List Int} {H0 H2 : Hp} (hx : H0 x = none) (hdx : H0 dx = none) (hne : dx ≠ x) (s : Same (upd (upd H0 dx (.own x)) x (.ins C dx [])) H2) (ht : H0 t = some (tp l)) : Same H0 (slH H2 x C dx [some (.ref t)]) ∧ Fo C (slH H2 x C dx [some (.ref t)]) x l := by
  have s3 := made (v := .ref t) hx hdx hne s
  refine ⟨s3, dx, t, upd_same, ?_, s3 _ _ ht⟩
  unfold slH
  rw [upd_ne hne, upd_same]
theorem ne_forms {X : Cx} {C a b : Addr} {H : Hp} {xs ys : List Int} {Q : VK} (c : OC X.K C) (fa : Fo C H a xs) (fb : Fo C H b ys) (q : Q (.bl (!decide (xs = ys))) H) : rNeO X C (spEqF C) E0 (.ref a) (.ref b) H Q := by
  obtain ⟨dx, t, ha, _⟩ := fa.slt
  obtain ⟨dy, u, hb, _⟩ := fb.slt
  exact ⟨a, dx, _, .ref C, rfl, ha, .inst hb, notFirst_self, a, xs, b, rfl, fa, .inl ⟨ys, fb, _, rfl, q⟩⟩
theorem Fo.sx {C a d : Addr} {H H' : Hp} {ns : List Int} (h : Fo C H a ns) (hd : Dc H d) (s : Sx d H H') : Fo C H' a ns := by
  obtain ⟨dx, t, h1, h2, h3⟩ := h
  obtain ⟨x, y, z, e⟩ := hd
  refine ⟨dx, t, s _ _ (fun q => ?_) h1, s _ _ (fun q => ?_) h2, s _ _ (fun q => ?_) h3⟩
  · rw [q, e] at h1
    cases h1
  · rw [q, e] at h2
    cases h2
  · rw [q, e] at h3
    cases h3
theorem mkF {CT C x dx t : Addr} {H : Hp} {l : List Int} {R : Hp → Prop} (hx : H x = none) (hdx : H dx = none) (hne : dx ≠ x) (ht : H t = some (tp l)) (h1 : 1 ≤ l.length) (h2 : l.length ≤ 41) (hs : ∀ z ∈ l, Sho z) (q : ∀ H', Same H H' → Fo C H' x l → R H') :
    spForm CT C [.ref x, .ref t] (upd (upd H dx (.own x)) x (.ins C dx [])) (fun v H2 => v = .non ∧ R H2) E0 := by
  refine ⟨x, dx, t, t, rfl, .inl ⟨upd_same, rfl⟩, .inr ⟨l, rfl, ?_, h1, h2, hs⟩, fun H2 s2 => ⟨rfl, ?_⟩⟩
  · rw [upd_ne (ne_of_none ht hx), upd_ne (ne_of_none ht hdx)]
    exact ht
  · obtain ⟨s, f⟩ := made_form hx hdx hne s2 ht
    exact q _ s f
theorem add_forms {C a b : Addr} {H : Hp} {xs ys : List Int} {k : Int} {Q : VK} (fa : Fo C H a xs) (fb : Fo C H b ys) (hl : xs.length = ys.length) (r : Rw ys) (q : ∀ p H', Same H H' → Fo C H' p (zs k xs ys) → Q (.ref p) H') : rBin C (spAdd C k) E0 (.ref a) (.ref b) H Q := by
  obtain ⟨dx, t, ha, _⟩ := fa.slt
  obtain ⟨dy, u, hb, _⟩ := fb.slt
  exact ⟨a, dx, _, b, dy, _, rfl, rfl, ha, hb, a, b, xs, ys, rfl, fa, fb, hl, r, q⟩
theorem mul_forms {C a b : Addr} {H : Hp} {xs ys : List Int} {Q : VK} (fa : Fo C H a xs) (fb : Fo C H b ys) (r : Rw xs) (r2 : Rw ys) (hl : xs.length + ys.length ≤ 42) (q : ∀ p H', Same H H' → Fo C H' p (ml xs ys) → Q (.ref p) H') : rBin C (spMul C) E0 (.ref a) (.ref b) H Q := by
  obtain ⟨dx, t, ha, _⟩ := fa.slt
  obtain ⟨dy, u, hb, _⟩ := fb.slt
  exact ⟨a, dx, _, b, dy, _, rfl, rfl, ha, hb, a, xs, _, rfl, fa, r, .inl ⟨b, ys, rfl, fb, r2, hl, q⟩⟩
theorem mulI_form {C a : Addr} {H : Hp} {xs : List Int} {c : Int} {Q : VK} (fa : Fo C H a xs) (r : Rw xs) (hc : Sho c) (q : ∀ p H', Same H H' → Fo C H' p (xs.map fun x => x * c) → Q (.ref p) H') : rBinI C (spMul C) E0 (.ref a) (.int c) H Q := by
  obtain ⟨dx, t, ha, _⟩ := fa.slt
  exact ⟨a, dx, _, c, rfl, rfl, ha, a, xs, _, rfl, fa, r, .inr ⟨c, rfl, hc, q⟩⟩
theorem Bd.tr {l : List Int} {n b : Nat} (h : Bd l n b) (hn : n ≤ 39) (hb : b < 10 ^ 60) : Tr l := ⟨h.ne, by rw [h.len]; omega, fun x hx => Nat.lt_of_le_of_lt (h.mem x hx) hb⟩
/-- a pair of a form and its row -/
structure Pa (C : Addr) (H : Hp) (v : V) (l : List Int) : Prop where
  tr : Tr l
  at_ : ∃ p f t, v = .ref p ∧ H p = some (.tup [.ref f, .ref t]) ∧ Fo C H f l ∧ H t = some (tp l)
theorem Pa.same {C : Addr} {H H' : Hp} {v : V} {l : List Int} (h : Pa C H v l) (s : Same H H') : Pa C H' v l := by
  obtain ⟨p, f, t, e, h1, h2, h3⟩ := h.at_
  exact ⟨h.tr, p, f, t, e, s _ _ h1, h2.same s, s _ _ h3⟩
theorem ml_one (l : List Int) : ml l [1] = l := by
  refine co_inj (by rw [ml_len]; show l.length + 1 - 1 = _; omega) fun k => ?_
  rw [co_ml (by simp), cv_congr (h := fun i => if i = 0 then 1 else 0) l k fun i _ => by cases i <;> rfl, cv_one]
theorem prop_ent {C a : Addr} {H : Hp} {xs : List Int} {Q : VK} (fa : Fo C H a xs) (q : ∀ t, H t = some (tp xs) → Q (.ref t) H) : ∃ a' dx vs, V.ref a = .ref a' ∧ Slt H a' C dx vs ∧ spEnt C [.ref a'] H Q E0 := by
  obtain ⟨dx, t, ha, _⟩ := fa.slt
  exact ⟨a, dx, _, rfl, ha, a, xs, rfl, fa, q⟩
theorem prop_zero {C a : Addr} {H : Hp} {xs : List Int} {Q : VK} (fa : Fo C H a xs) (q : Q (.bl (!xs.any (· != 0))) H) : ∃ a' dx vs, V.ref a = .ref a' ∧ Slt H a' C dx vs ∧ spIsZ C [.ref a'] H Q E0 := by
  obtain ⟨dx, t, ha, _⟩ := fa.slt
  exact ⟨a, dx, _, rfl, ha, a, xs, rfl, fa, q⟩
theorem prop_deg {C a : Addr} {H : Hp} {xs : List Int} {Q : VK} (fa : Fo C H a xs) (q : Q (.int ((xs.length : Int) - 1)) H) : ∃ a' dx vs, V.ref a = .ref a' ∧ Slt H a' C dx vs ∧ spDeg C [.ref a'] H Q E0 := by
  obtain ⟨dx, t, ha, _⟩ := fa.slt
  exact ⟨a, dx, _, rfl, ha, a, xs, rfl, fa, q⟩
/-- Form(t), t a written row -/
theorem mkB {CT C x dx t : Addr} {H : Hp} {l : List Int} {n b : Nat} {R : Hp → Prop} (hx : H x = none) (hdx : H dx = none) (hne : dx ≠ x) (ht : H t = some (tp l)) (bd : Bd l n b) (hn : n ≤ 39) (hb : b < 10 ^ 60) (q : ∀ H', Same H H' → Fo C H' x l → R H') :
    spForm CT C [.ref x, .ref t] (upd (upd H dx (.own x)) x (.ins C dx [])) (fun v H2 => v = .non ∧ R H2) E0 :=
  mkF hx hdx hne ht (bd.tr hn hb).pos (by have := (bd.tr hn hb).len; omega) (bd.tr hn hb).sho q
end
end K10

set_option Elab.async false
set_option linter.all false
set_option maxRecDepth 100000
/-! values of forms; a form is told by its values -/
namespace K10
/-- the value at x, y of the first n entries -/
def evF : Nat → (Nat → Int) → Int → Int → Int
  | 0, _, _, _ => 0
  | n + 1, g, x, y => x * evF n g x y + g n * y ^ n
def ev (l : List Int) (x y : Int) : Int := evF l.length (co l) x y
theorem evF_congr {g h : Nat → Int} {x y : Int} : ∀ n, (∀ i, i < n → g i = h i) → evF n g x y = evF n h x y
  | 0, _ => rfl
  | n + 1, e => by
    show x * evF n g x y + g n * y ^ n = x * evF n h x y + h n * y ^ n
    rw [evF_congr n fun i hi => e i (by omega), e n (by omega)]
theorem evF_add (g h : Nat → Int) (x y : Int) : ∀ n, evF n (fun i => g i + h i) x y = evF n g x y + evF n h x y
  | 0 => rfl
  | n + 1 => by
    show x * evF n (fun i => g i + h i) x y + (g n + h n) * y ^ n = (x * evF n g x y + g n * y ^ n) + (x * evF n h x y + h n * y ^ n)
    rw [evF_add g h x y n, Int.mul_add, Int.add_mul]
    omega
theorem evF_mul (c : Int) (g : Nat → Int) (x y : Int) : ∀ n, evF n (fun i => c * g i) x y = c * evF n g x y
  | 0 => by show (0 : Int) = c * 0; rw [Int.mul_zero]
  | n + 1 => by
    show x * evF n (fun i => c * g i) x y + (c * g n) * y ^ n = c * (x * evF n g x y + g n * y ^ n)
    rw [evF_mul c g x y n, Int.mul_add, Int.mul_assoc, ← Int.mul_assoc x c, Int.mul_comm x c, Int.mul_assoc]
theorem evF_sh (g : Nat → Int) (x y : Int) : ∀ n, evF (n + 1) (sh g) x y = y * evF n g x y
  | 0 => by
    show x * 0 + (0 : Int) * y ^ 0 = y * 0
    rw [Int.mul_zero, Int.zero_mul, Int.mul_zero]
    rfl
  | n + 1 => by
    show x * evF (n + 1) (sh g) x y + g n * y ^ (n + 1) = y * (x * evF n g x y + g n * y ^ n)
    rw [evF_sh g x y n, Int.mul_add, Int.pow_succ, ← Int.mul_assoc, Int.mul_comm x y, Int.mul_assoc, Int.mul_comm (y ^ n) y, ← Int.mul_assoc (g n), Int.mul_comm (g n) y, Int.mul_assoc y (g n)]
theorem evF_far {g : Nat → Int} (x y : Int) {n : Nat} (h : ∀ i, n ≤ i → g i = 0) : ∀ k, evF (n + k) g x y = x ^ k * evF n g x y
  | 0 => by rw [Nat.add_zero, Int.pow_zero, Int.one_mul]
  | k + 1 => by
    show x * evF (n + k) g x y + g (n + k) * y ^ (n + k) = _
    rw [evF_far x y h k, h _ (by omega), Int.zero_mul, Int.add_zero, Int.pow_succ, ← Int.mul_assoc, Int.mul_comm x]
theorem evF_zero (x y : Int) : ∀ n, evF n (fun _ => 0) x y = 0
  | 0 => rfl
  | n + 1 => by
    show x * evF n (fun _ => 0) x y + 0 * y ^ n = 0
    rw [evF_zero x y n, Int.mul_zero, Int.zero_mul]
    rfl
theorem ev_ml : ∀ {l m : List Int}, l ≠ [] → m ≠ [] → ∀ x y, ev (ml l m) x y = ev l x y * ev m x y := by
  intro l
  induction l with
  | nil => intro m h; exact absurd rfl h
  | cons a l ih =>
    intro m hl hm x y
    have hM : 0 < m.length := List.length_pos_iff.mpr hm
    have e0 : ev (ml (a :: l) m) x y = evF (l.length + m.length) (cv (a :: l) (co m)) x y := by
      unfold ev
      rw [ml_len, show (a :: l).length + m.length - 1 = l.length + m.length by rw [List.length_cons]; omega]
      exact evF_congr _ fun i _ => co_ml hm i
    rw [e0]
    have e1 : evF (l.length + m.length) (cv (a :: l) (co m)) x y = a * evF (l.length + m.length) (co m) x y + evF (l.length + m.length) (sh (cv l (co m))) x y := by
      rw [← evF_mul, ← evF_add]
      exact evF_congr _ fun i _ => cv_cons a l (co m) i
    rw [e1, show l.length + m.length = m.length + l.length by omega, evF_far x y (fun i hi => co_far hi) l.length]
    have e2 : ev (a :: l) x y = a * x ^ l.length + y * evF l.length (co l) x y := by
      unfold ev
      rw [List.length_cons]
      rw [show evF (l.length + 1) (co (a :: l)) x y = evF (l.length + 1) (fun i => a * (if i = 0 then 1 else 0) + sh (co l) i) x y from evF_congr _ fun i _ => by
        rw [co_cons]
        by_cases h : i = 0
        · rw [if_pos h, if_pos h, Int.mul_one]
        · rw [if_neg h, if_neg h, Int.mul_zero], evF_add, evF_mul, evF_sh]
      congr 1
      congr 1
      have h1 : evF (1 + l.length) (fun i => if i = 0 then (1 : Int) else 0) x y = x ^ l.length * evF 1 (fun i => if i = 0 then (1 : Int) else 0) x y := evF_far x y (n := 1) (fun i hi => if_neg (by omega)) l.length
      rw [show l.length + 1 = 1 + l.length by omega, h1]
      show x ^ l.length * (x * 0 + (if 0 = 0 then 1 else 0) * y ^ 0) = _
      rw [if_pos rfl, Int.mul_zero, Int.pow_zero, Int.mul_one, Int.zero_add, Int.mul_one]
    rw [e2]
    by_cases c : l = []
    · subst c
      show a * (x ^ 0 * evF m.length (co m) x y) + evF (m.length + 0) (sh (cv [] (co m))) x y = (a * x ^ 0 + y * 0) * ev m x y
      rw [show evF (m.length + 0) (sh (cv [] (co m))) x y = evF m.length (fun _ => 0) x y from evF_congr _ fun i _ => by cases i <;> rfl, evF_zero, Int.pow_zero, Int.one_mul, Int.mul_one, Int.mul_zero, Int.add_zero, Int.add_zero]
      rfl
    · have hL : 0 < l.length := List.length_pos_iff.mpr c
      have e3 : evF (m.length + l.length) (sh (cv l (co m))) x y = y * (ev l x y * ev m x y) := by
        rw [show m.length + l.length = (l.length + m.length - 1) + 1 by omega, evF_sh, ← ih c hm x y]
        congr 1
        unfold ev
        rw [ml_len]
        exact evF_congr _ fun i _ => (co_ml hm i).symm
      rw [e3]
      show a * (x ^ l.length * ev m x y) + y * (ev l x y * ev m x y) = (a * x ^ l.length + y * ev l x y) * ev m x y
      rw [Int.add_mul, Int.mul_assoc, Int.mul_assoc]
theorem ev_cons (a : Int) (l : List Int) (x y : Int) : ev (a :: l) x y = a * x ^ l.length + y * ev l x y := by
  unfold ev
  rw [List.length_cons]
  rw [show evF (l.length + 1) (co (a :: l)) x y = evF (l.length + 1) (fun i => a * (if i = 0 then 1 else 0) + sh (co l) i) x y from evF_congr _ fun i _ => by
    rw [co_cons]
    by_cases h : i = 0
    · rw [if_pos h, if_pos h, Int.mul_one]
    · rw [if_neg h, if_neg h, Int.mul_zero], evF_add, evF_mul, evF_sh]
  congr 1
  congr 1
  have h1 : evF (1 + l.length) (fun i => if i = 0 then (1 : Int) else 0) x y = x ^ l.length * evF 1 (fun i => if i = 0 then (1 : Int) else 0) x y := evF_far x y (n := 1) (fun i hi => if_neg (by omega)) l.length
  rw [show l.length + 1 = 1 + l.length by omega, h1]
  show x ^ l.length * (x * 0 + (if 0 = 0 then 1 else 0) * y ^ 0) = _
  rw [if_pos rfl, Int.mul_zero, Int.pow_zero, Int.mul_one, Int.zero_add, Int.mul_one]
/-- only the form with zeros has the value 0 everywhere -/
theorem evF_inj {g : Nat → Int} {M : Int} : ∀ n, (∀ i, i < n → (g i).natAbs < M.natAbs) → evF n g M 1 = 0 → ∀ i, i < n → g i = 0
  | 0, _, _, i, hi => absurd hi (Nat.not_lt_zero i)
  | n + 1, hb, e, i, hi => by
    have e' : M * evF n g M 1 + g n * 1 ^ n = 0 := e
    rw [Int.one_pow, Int.mul_one] at e'
    have hd : M ∣ g n := ⟨-evF n g M 1, by rw [Int.mul_neg]; omega⟩
    have hn : g n = 0 := Int.natAbs_eq_zero.mp (Nat.eq_zero_of_dvd_of_lt (Int.natAbs_dvd_natAbs.mpr hd) (hb n (by omega)))
    have hM : M ≠ 0 := fun z => by
      have := hb n (by omega)
      rw [z] at this
      exact absurd this (by simp)
    rw [hn, Int.add_zero] at e'
    have e2 : evF n g M 1 = 0 := (Int.mul_eq_zero.mp e').resolve_left hM
    by_cases c : i = n
    · rw [c]; exact hn
    · exact evF_inj n (fun j hj => hb j (by omega)) e2 i (by omega)
theorem ev_inj {l m : List Int} (hl : l.length = m.length) (h : ∀ x y, ev l x y = ev m x y) : l = m := by
  refine co_inj hl fun i => ?_
  by_cases c : i < l.length
  · have key := evF_inj (g := fun i => co l i + -1 * co m i) (M := ((nm l + nm m + 1 : Nat) : Int)) l.length (fun i _ => by
      rw [Int.natAbs_natCast]
      have h1 : (co l i).natAbs ≤ nm l := by
        rcases co_mem (l := l) (k := i) with e | e
        · rw [e]; exact Nat.zero_le _
        · exact nm_mem e
      have h2 : (co m i).natAbs ≤ nm m := by
        rcases co_mem (l := m) (k := i) with e | e
        · rw [e]; exact Nat.zero_le _
        · exact nm_mem e
      show (co l i + -1 * co m i).natAbs < _
      omega) (by
      rw [evF_add, evF_mul]
      have := h ((nm l + nm m + 1 : Nat) : Int) 1
      unfold ev at this
      rw [← hl] at this
      rw [this]
      omega) i c
    have key' : co l i + -1 * co m i = 0 := key
    omega
  · rw [co_far (by omega), co_far (by omega)]
end K10

set_option Elab.async false
set_option linter.all false
set_option maxRecDepth 100000
/-! changed forms, derived forms: the plain law -/
namespace K10
theorem ev_zs (c : Int) {l m : List Int} (h : l.length = m.length) (x y : Int) : ev (zs c l m) x y = ev l x y + c * ev m x y := by
  have hz : (zs c l m).length = l.length := by unfold zs; rw [List.length_zipWith, h, Nat.min_self]
  have co_zs : ∀ k, co (zs c l m) k = co l k + c * co m k := fun k => by
    unfold zs
    by_cases hk : k < l.length
    · rw [co_get (by rw [List.length_zipWith]; omega), co_get hk, co_get (by omega), List.getElem_zipWith]
    · rw [co_far (by rw [List.length_zipWith]; omega), co_far (by omega), co_far (by omega), Int.mul_zero]
      rfl
  unfold ev
  rw [hz, ← h, ← evF_mul, ← evF_add]
  exact evF_congr _ fun i _ => co_zs i
theorem ev_map (c : Int) (l : List Int) (x y : Int) : ev (l.map (c * ·)) x y = c * ev l x y := by
  unfold ev
  rw [List.length_map, ← evF_mul]
  exact evF_congr _ fun i _ => co_map c l i
theorem ev_one (x y : Int) : ev [1] x y = 1 := by
  rw [ev_cons]
  show 1 * x ^ 0 + y * 0 = 1
  rw [Int.pow_zero, Int.mul_zero]
  rfl
theorem ev_nil (x y : Int) : ev [] x y = 0 := rfl
theorem pow_ne {l : List Int} (h : l ≠ []) : ∀ n, pow l n ≠ []
  | 0 => by show [1] ≠ []; simp
  | n + 1 => ml_ne (pow_ne h n) h
theorem pow_len {l : List Int} (h : l.length = 2) : ∀ n, (pow l n).length = n + 1
  | 0 => rfl
  | n + 1 => by
    show (ml (pow l n) l).length = _
    rw [ml_len, pow_len h n, h]
    omega
theorem ev_pow {l : List Int} (h : l ≠ []) (x y : Int) : ∀ n, ev (pow l n) x y = ev l x y ^ n
  | 0 => by rw [Int.pow_zero]; exact ev_one x y
  | n + 1 => by
    show ev (ml (pow l n) l) x y = _
    rw [ev_ml (pow_ne h n) h, ev_pow h x y n, Int.pow_succ]
theorem zs_len {c : Int} {l m : List Int} (h : l.length = m.length) : (zs c l m).length = l.length := by unfold zs; rw [List.length_zipWith, h, Nat.min_self]
/-- how the program changes: the entries that are left, what is found, the power of the second row -/
def chg (X Y : List Int) : List Int → List Int → List Int → List Int
  | [], f, _ => f
  | e :: r, f, p => chg X Y r (zs e (ml f X) (ml p Y)) (ml p Y)
theorem chg_len {X Y : List Int} (hX : X.length = 2) (hY : Y.length = 2) : ∀ (r f p : List Int), f ≠ [] → f.length = p.length → (chg X Y r f p).length = f.length + r.length
  | [], f, p, _, _ => rfl
  | e :: r, f, p, nf, h => by
    have pf : 0 < f.length := List.length_pos_iff.mpr nf
    have l1 : (ml f X).length = f.length + 1 := by rw [ml_len, hX]; omega
    have l2 : (ml p Y).length = f.length + 1 := by rw [ml_len, hY, ← h]; omega
    have l3 : (zs e (ml f X) (ml p Y)).length = f.length + 1 := by rw [zs_len (by rw [l1, l2]), l1]
    show (chg X Y r (zs e (ml f X) (ml p Y)) (ml p Y)).length = _
    rw [chg_len hX hY r _ _ (fun z => by rw [z] at l3; cases l3) (by rw [l3, l2]), l3, List.length_cons]
    omega
theorem ev_chg {X Y : List Int} (hX : X.length = 2) (hY : Y.length = 2) (x y : Int) : ∀ (r f p : List Int), f ≠ [] → f.length = p.length →
    ev (chg X Y r f p) x y = ev f x y * ev X x y ^ r.length + ev p x y * ev Y x y * ev r (ev X x y) (ev Y x y)
  | [], f, p, _, _ => by
    show ev f x y = ev f x y * ev X x y ^ 0 + ev p x y * ev Y x y * 0
    rw [Int.pow_zero, Int.mul_one, Int.mul_zero, Int.add_zero]
  | e :: r, f, p, nf, h => by
    have pf : 0 < f.length := List.length_pos_iff.mpr nf
    have np : p ≠ [] := fun z => by rw [z] at h; simp at h; exact nf h
    have nX : X ≠ [] := fun z => by rw [z] at hX; cases hX
    have nY : Y ≠ [] := fun z => by rw [z] at hY; cases hY
    have l1 : (ml f X).length = f.length + 1 := by rw [ml_len, hX]; omega
    have l2 : (ml p Y).length = f.length + 1 := by rw [ml_len, hY, ← h]; omega
    have l3 : (zs e (ml f X) (ml p Y)).length = f.length + 1 := by rw [zs_len (by rw [l1, l2]), l1]
    show ev (chg X Y r (zs e (ml f X) (ml p Y)) (ml p Y)) x y = _
    rw [ev_chg hX hY x y r _ _ (fun z => by rw [z] at l3; cases l3) (by rw [l3, l2]), ev_zs e (by rw [l1, l2]), ev_ml nf nX, ev_ml np nY, ev_cons, List.length_cons, Int.pow_succ]
    generalize ev f x y = a
    generalize ev p x y = b
    generalize ev X x y = u
    generalize ev Y x y = v
    generalize ev r u v = w
    generalize u ^ r.length = z
    grind
/-- the changed form -/
def changed (X Y l : List Int) : List Int := chg X Y l.tail [co l 0] [1]
theorem changed_len {X Y l : List Int} (hX : X.length = 2) (hY : Y.length = 2) (h : l ≠ []) : (changed X Y l).length = l.length := by
  match l, h with
  | a :: r, _ =>
    show (chg X Y r [a] [1]).length = _
    rw [chg_len hX hY r [a] [1] (by simp) rfl]
    show 1 + r.length = r.length + 1
    omega
theorem ev_changed {X Y l : List Int} (hX : X.length = 2) (hY : Y.length = 2) (h : l ≠ []) (x y : Int) : ev (changed X Y l) x y = ev l (ev X x y) (ev Y x y) := by
  match l, h with
  | a :: r, _ =>
    show ev (chg X Y r [a] [1]) x y = _
    rw [ev_chg hX hY x y r [a] [1] (by simp) rfl, ev_one, ev_cons a r, Int.one_mul, ev_cons a []]
    show (a * x ^ 0 + y * 0) * _ + _ = _
    rw [Int.pow_zero, Int.mul_one, Int.mul_zero, Int.add_zero]
theorem ev_rep (n : Nat) (x y : Int) : ev (List.replicate n 0) x y = 0 := by
  unfold ev
  rw [show evF (List.replicate n (0 : Int)).length (co (List.replicate n 0)) x y = evF (List.replicate n (0 : Int)).length (fun _ => 0) x y from evF_congr _ fun i hi => by
    rw [co_get hi, List.getElem_replicate], evF_zero]
theorem ev2 (a b x y : Int) : ev [a, b] x y = a * x + b * y := by
  rw [ev_cons, ev_cons, ev_nil]
  show a * x ^ 1 + y * (b * x ^ 0 + y * 0) = _
  rw [Int.pow_zero, Int.pow_succ, Int.pow_zero]
  grind
theorem pow_zero {c : Int} : ∀ {n : Nat}, c ^ n = 0 → c = 0
  | 0, h => by rw [Int.pow_zero] at h; cases h
  | n + 1, h => by
    rw [Int.pow_succ] at h
    rcases Int.mul_eq_zero.mp h with e | e
    · exact pow_zero e
    · exact e
theorem zero_of_ev {l : List Int} (h : ∀ x y, ev l x y = 0) : ∀ z ∈ l, z = 0 := by
  have e : l = List.replicate l.length 0 := ev_inj (by rw [List.length_replicate]) fun x y => by rw [h, ev_rep]
  intro z hz
  rw [e] at hz
  exact (List.mem_replicate.mp hz).2
/-! ### values -/
def vf (x y : Int) : List Int → Int → Int → Int
  | [], f, _ => f
  | e :: r, f, p => vf x y r (f * x + e * p) (p * y)
theorem vf_ev (x y : Int) : ∀ (r : List Int) (f p : Int), vf x y r f p = f * x ^ r.length + p * ev r x y
  | [], f, p => by
    show f = f * x ^ 0 + p * 0
    rw [Int.pow_zero, Int.mul_one, Int.mul_zero, Int.add_zero]
  | e :: r, f, p => by
    show vf x y r (f * x + e * p) (p * y) = _
    rw [vf_ev x y r, ev_cons, List.length_cons, Int.pow_succ]
    generalize x ^ r.length = A
    generalize ev r x y = w
    grind
/-! ### derivatives -/
/-- derived by x, by y -/
def dX (l : List Int) : List Int := tb (l.length - 1) fun k => co l k * ((l.length : Int) - 1 - k)
def dY (l : List Int) : List Int := tb (l.length - 1) fun k => co l (k + 1) * ((k : Int) + 1)
theorem dX_len (l : List Int) : (dX l).length = l.length - 1 := tb_len _ _
theorem dY_len (l : List Int) : (dY l).length = l.length - 1 := tb_len _ _
theorem co_zs' (c : Int) {l m : List Int} (h : l.length = m.length) (k : Nat) : co (zs c l m) k = co l k + c * co m k := by
  unfold zs
  by_cases hk : k < l.length
  · rw [co_get (by rw [List.length_zipWith]; omega), co_get hk, co_get (by omega), List.getElem_zipWith]
  · rw [co_far (by rw [List.length_zipWith]; omega), co_far (by omega), co_far (by omega), Int.mul_zero]
    rfl
def it (f : List Int → List Int) : Nat → List Int → List Int
  | 0, l => l
  | n + 1, l => f (it f n l)
theorem dX_it_len (l : List Int) : ∀ n, (it dX n l).length = l.length - n
  | 0 => rfl
  | n + 1 => by
    show (dX (it dX n l)).length = _
    rw [dX_len, dX_it_len l n]
    omega
theorem dY_it_len (l : List Int) : ∀ n, (it dY n l).length = l.length - n
  | 0 => rfl
  | n + 1 => by
    show (dY (it dY n l)).length = _
    rw [dY_len, dY_it_len l n]
    omega
/-- derived i times by x, j times by y -/
def dd (i j : Nat) (l : List Int) : List Int := it dY j (it dX i l)
theorem dd_len (i j : Nat) (l : List Int) : (dd i j l).length = l.length - i - j := by
  unfold dd
  rw [dY_it_len, dX_it_len]
/-- the rule of Euler -/
theorem euler {l : List Int} (h : 2 ≤ l.length) : zs 1 (ml [1, 0] (dX l)) (ml [0, 1] (dY l)) = l.map fun x => x * ((l.length : Int) - 1) := by
  have n1 : dX l ≠ [] := fun z => by have := dX_len l; rw [z] at this; have : 0 = l.length - 1 := this; omega
  have n2 : dY l ≠ [] := fun z => by have := dY_len l; rw [z] at this; have : 0 = l.length - 1 := this; omega
  have l1 : (ml [1, 0] (dX l)).length = l.length := by rw [ml_len, dX_len]; show 2 + (l.length - 1) - 1 = _; omega
  have l2 : (ml [0, 1] (dY l)).length = l.length := by rw [ml_len, dY_len]; show 2 + (l.length - 1) - 1 = _; omega
  refine co_inj (by rw [zs_len (by rw [l1, l2]), l1, List.length_map]) fun k => ?_
  rw [co_zs' 1 (by rw [l1, l2]), co_ml n1, co_ml n2, map_mul_comm, co_map, cv_cons, cv_cons]
  unfold dX dY
  rw [co_tb, co_tb]
  cases k with
  | zero =>
    show 1 * _ + 0 + 1 * (0 * _ + 0) = _
    rw [if_pos (by omega)]
    grind
  | succ k =>
    show 1 * _ + (cv [0] _ k) + 1 * (0 * _ + (cv [1] _ k)) = _
    have c0 : ∀ (g : Nat → Int) j, cv [0] g j = 0 := fun g j => by
      cases j with
      | zero => rw [cv_zero, Int.zero_mul]
      | succ j => rw [cv_succ, Int.zero_mul]; rfl
    have c1 : ∀ (g : Nat → Int) j, cv [1] g j = g j := fun g j => by
      cases j with
      | zero => rw [cv_zero, Int.one_mul]
      | succ j => rw [cv_succ, Int.one_mul]; show g (j + 1) + 0 = _; omega
    rw [c0, c1, co_tb]
    by_cases h1 : k + 1 < l.length - 1
    · rw [if_pos h1, if_pos (by omega)]
      have : ((k + 1 : Nat) : Int) = (k : Int) + 1 := by omega
      rw [this]
      grind
    · rw [if_neg h1]
      by_cases h2 : k < l.length - 1
      · rw [if_pos h2, show (l.length : Int) - 1 = (k : Int) + 1 by omega]
        grind
      · rw [if_neg h2, show co l (k + 1) = 0 from co_far (by omega)]
        grind
end K10

set_option Elab.async false
set_option linter.all false
set_option maxRecDepth 100000
set_option maxHeartbeats 4000000
namespace K10
open PySem PySem.Spec PyProof.Rows L2 StX RZ MyR SlX OwnR OwnF EnumT
/-- a comprehension over enumerate of a tuple -/
theorem lc_enumT {K : PySem.W.Frag} {a : Addr} {xs : List V} {g : TG} {tt : TT} {te : TE} {vs : List Nat} {σ : L2.St} {H1 : Hp} {D : Addr} {Qd : Hp → Prop} (Pv : Nat → Hp → Prop) (h0 : Pv 0 (upd H1 D (.lst []))) (hq : ∀ i H, i ≤ xs.length → Pv i H → SqT K H a xs)
    (hs : ∀ (i : Nat) (x : V) (T : Addr) (H : Hp), xs[i]? = some x → Pv i H → H T = none → g (.ref T) (wipe σ vs) (upd H T (.tup [.int (i : Nat), x])) fun σ2 H2 => wipe σ2 vs = wipe σ vs ∧ tt σ2 H2 fun b H3 =>
      if b = true then te σ2 H3 fun y H4 => ∃ acc, H4 D = some (.lst acc) ∧ acc.length < sizeLine ∧ Pv (i + 1) (upd H4 D (.lst (acc ++ [y]))) else Pv (i + 1) H3) (hd : ∀ H, Pv xs.length H → Qd H) :
    ∃ W : Nat → Nat → Hp → Prop, (∃ m, W 0 m (upd H1 D (.lst []))) ∧ ∀ i m H, W i m H →
      ((IteT K a).stop i H ∧ Qd H) ∨ ((IteT K a).go i H ∧ ∃ Nx : Hp → Prop, (∀ H', Nx H' → ∃ m', m' < m ∧ W (i + 1) m' H') ∧ ∀ x H', (IteT K a).yld i H x H' → g x (wipe σ vs) H' fun σ2 H2 => wipe σ2 vs = wipe σ vs ∧ tt σ2 H2 fun b H3 =>
        if b = true then te σ2 H3 fun y H4 => ∃ acc, H4 D = some (.lst acc) ∧ acc.length < sizeLine ∧ Nx (upd H4 D (.lst (acc ++ [y]))) else Nx H3) := by
  refine ⟨fun i m H => m = xs.length - i ∧ i ≤ xs.length ∧ Pv i H, ⟨xs.length, by simp, Nat.zero_le _, h0⟩, ?_⟩
  rintro i m H ⟨rfl, hi, p⟩
  have qx := hq i H hi p
  by_cases hlt : i < xs.length
  · have hx : xs[i]? = some xs[i] := List.getElem?_eq_getElem hlt
    refine .inr ⟨⟨xs, _, qx, hx⟩, Pv (i + 1), fun H' p' => ⟨xs.length - (i + 1), by omega, rfl, hlt, p'⟩, fun v H' y => ?_⟩
    obtain ⟨T, x', rfl, hT, rfl, f1⟩ := y
    exact hs i x' T H (f1 xs qx) p hT
  · have e : i = xs.length := by omega
    subst e
    exact .inl ⟨⟨xs, qx, rfl⟩, hd H p⟩
section
variable {P : Program} {w : World} {K : PySem.W.Frag} {mg : Str → Option Value} {base : Heap}
theorem ok_product_in (T : Facts K mg) : FnOk P w K mg base CX0 2 T.f_product_in T.fd_product_in ["one", "other"] (spJoin K) := by
  have G_joined_entries : FnOk P w K mg base CX0 1 T.f_joined_entries T.fd_joined_entries ["one", "other"] (spJoin K) := ok_joined_entries T
  refine T.F_product_in.ok sc_product_in (fun vs H Q E h => ?_) (fun cdv A outer s H vs Q E hr h => ?_)
  · obtain ⟨a, b, xs, ys, rfl, _⟩ := h
    rfl
  · obtain ⟨a, b, xs, ys, rfl, h⟩ := h
    refine ⟨_, (PSs.nox (pss_one (ps_ret (pe_call G_joined_entries hr (by rfl) T.g_joined_entries T.F_joined_entries.kp T.b_joined_entries .nil pass0 (pa_cons (pv 0) (pa_cons (pv 1) pa_nil)))))), ?_⟩
    exact ⟨_, rfl, _, rfl, a, b, xs, ys, rfl, h⟩
def spFrom : Sp := fun vs H Q _ => ∃ i lo hi : Int, vs = [.int i, .int lo, .int hi] ∧ lo ≤ i ∧ i ≤ hi ∧ Q (.bl true) H
theorem ok_is_from (T : Facts K mg) : FnOk P w K mg base CX0 2 T.f_is_from T.fd_is_from ["value", "least", "most"] spFrom := by
  have G_is_whole : FnOk P w K mg base CX0 1 T.f_is_whole T.fd_is_whole ["value"] spWhole := ok_is_whole T
  refine T.F_is_from.ok sc_is_from (fun vs H Q E h => ?_) (fun cdv A outer s H vs Q E hr h => ?_)
  · obtain ⟨i, lo, hi, rfl, _⟩ := h
    rfl
  · obtain ⟨i, lo, hi, rfl, h1, h2, q⟩ := h
    refine ⟨_, (PSs.nox (pss_one (ps_ret (pe_and (pe_call G_is_whole hr (by rfl) T.g_is_whole T.F_is_whole.kp T.b_is_whole .nil pass0 (pa_cons (pv 0) pa_nil)) (pe_one (pe_chain op_le op_le (pv 1) (pv 0) (pv 2))))))), ?_⟩
    refine ⟨_, rfl, i, rfl, true, rfl, iteT ⟨_, rfl, _, rfl, _, _, rfl, rfl, true, ?_, iteT ⟨_, rfl, _, _, rfl, rfl, ?_⟩⟩⟩
    · show V.bl (decide (lo ≤ i)) = _
      rw [decide_eq_true h1]
    · show Q (V.bl (decide (i ≤ hi))) H
      rw [decide_eq_true h2]
      exact q
def spReqFrom : Sp := fun vs H Q _ => ∃ i lo hi : Int, vs = [.int i, .int lo, .int hi] ∧ lo ≤ i ∧ i ≤ hi ∧ Q .non H
theorem ok_require_from (T : Facts K mg) : FnOk P w K mg base CX0 3 T.f_require_from T.fd_require_from ["value", "least", "most"] spReqFrom := by
  have G_is_from := ok_is_from (P := P) (w := w) (base := base) T
  refine T.F_require_from.ok sc_require_from (fun vs H Q E h => ?_) (fun cdv A outer s H vs Q E hr h => ?_)
  · obtain ⟨i, lo, hi, rfl, _⟩ := h
    rfl
  · obtain ⟨i, lo, hi, rfl, h1, h2, q⟩ := h
    refine ⟨_, (PSs.nox (pss_one (ps_if (pt_not (pt_val (pe_call G_is_from hr (by rfl) T.g_is_from T.F_is_from.kp T.b_is_from .nil pass0 (pa_cons (pv 0) (pa_cons (pv 1) (pa_cons (pv 2) pa_nil))))))
      (pss_one ps_never)
      pss_nil))), ?_⟩
    exact ⟨_, rfl, _, rfl, _, rfl, i, lo, hi, rfl, h1, h2, true, rfl, iteF q⟩
/-! ### values -/
/-- what is asked of a value's letters -/
structure Vb (l : List Int) (x y : Int) (M : Nat) : Prop where
  x : x.natAbs ≤ M
  y : y.natAbs ≤ M
  one : 1 ≤ M
  big : nm l * M ^ l.length < 2 ^ 400
  pw : M ^ (l.length + 1) < 2 ^ 400
/-- what stands after i turns -/
def vfs (x y : Int) (l : List Int) : Nat → Int × Int
  | 0 => (0, 1)
  | i + 1 => ((vfs x y l i).1 * x + co l i * (vfs x y l i).2, (vfs x y l i).2 * y)
theorem vfs_vf (x y : Int) (l : List Int) : ∀ i, i ≤ l.length → vf x y (l.drop i) (vfs x y l i).1 (vfs x y l i).2 = vf x y l 0 1
  | 0, _ => rfl
  | i + 1, h => by
    rw [← vfs_vf x y l i (by omega), show l.drop i = co l i :: l.drop (i + 1) by rw [co_get (by omega)]; exact List.drop_eq_getElem_cons (by omega)]
    rfl
theorem vfs_ev (x y : Int) (l : List Int) : (vfs x y l l.length).1 = ev l x y := by
  have := vfs_vf x y l l.length (Nat.le_refl _)
  rw [List.drop_length, vf_ev x y l 0 1, Int.zero_mul, Int.zero_add, Int.one_mul] at this
  exact this
theorem nm_take (l : List Int) (i : Nat) (h : i < l.length) : nm (l.take (i + 1)) = nm (l.take i) + (co l i).natAbs := by
  rw [take_snoc h, nm_snoc]
theorem nm_take_le (l : List Int) : ∀ i, nm (l.take i) ≤ nm l := fun i => by
  have : nm l = nm (l.take i) + nm (l.drop i) := by
    unfold nm
    rw [← List.sum_append, ← List.map_append, List.take_append_drop]
  omega
theorem vfs_bd {l : List Int} {x y : Int} {M : Nat} (h : Vb l x y M) : ∀ i, i ≤ l.length → (vfs x y l i).1.natAbs ≤ nm (l.take i) * M ^ i ∧ (vfs x y l i).2.natAbs ≤ M ^ i
  | 0, _ => ⟨Nat.zero_le _, Nat.le_refl _⟩
  | i + 1, hi => by
    obtain ⟨h1, h2⟩ := vfs_bd h i (by omega)
    show ((vfs x y l i).1 * x + co l i * (vfs x y l i).2).natAbs ≤ _ ∧ ((vfs x y l i).2 * y).natAbs ≤ _
    constructor
    · rw [nm_take l i (by omega), Nat.add_mul]
      refine Nat.le_trans (Int.natAbs_add_le _ _) ?_
      rw [Int.natAbs_mul, Int.natAbs_mul]
      have e1 := Nat.mul_le_mul h1 h.x
      have e2 := Nat.mul_le_mul (Nat.le_refl (co l i).natAbs) (Nat.le_trans h2 (Nat.pow_le_pow_right h.one (Nat.le_succ i)))
      rw [Nat.mul_assoc, ← Nat.pow_succ] at e1
      exact Nat.add_le_add e1 e2
    · rw [Int.natAbs_mul, Nat.pow_succ]
      exact Nat.mul_le_mul h2 h.y
theorem vfs_sm {l : List Int} {x y : Int} {M : Nat} (h : Vb l x y M) (i : Nat) (hi : i ≤ l.length) : sm (vfs x y l i).1 ∧ sm (vfs x y l i).2 := by
  obtain ⟨h1, h2⟩ := vfs_bd h i hi
  have pm : M ^ i ≤ M ^ l.length := Nat.pow_le_pow_right h.one hi
  have pm2 : M ^ l.length ≤ M ^ (l.length + 1) := Nat.pow_le_pow_right h.one (Nat.le_succ _)
  exact ⟨Nat.lt_of_le_of_lt (Nat.le_trans h1 (Nat.mul_le_mul (nm_take_le l i) pm)) h.big, Nat.lt_of_le_of_lt h2 (Nat.lt_of_le_of_lt (Nat.le_trans pm pm2) h.pw)⟩
theorem Vb.smx {l : List Int} {x y : Int} {M : Nat} (h : Vb l x y M) : sm x ∧ sm y := by
  have pm : M ≤ M ^ (l.length + 1) := by
    rw [Nat.pow_succ]
    exact Nat.le_mul_of_pos_left _ (Nat.pow_pos h.one)
  exact ⟨Nat.lt_of_le_of_lt (Nat.le_trans h.x pm) h.pw, Nat.lt_of_le_of_lt (Nat.le_trans h.y pm) h.pw⟩
def spValue : Sp := fun vs H Q _ => ∃ (t : Addr) (l : List Int) (x y : Int) (M : Nat), vs = [.ref t, .int x, .int y] ∧ H t = some (tp l) ∧ (∀ z ∈ l, sm z) ∧ Vb l x y M ∧ ∀ H', Same H H' → Q (.int (ev l x y)) H'
/-! ### changes -/
/-- a table of two rows of two -/
def Tb (H : Hp) (t : Addr) (X Y : List Int) : Prop := ∃ r0 r1, H t = some (.tup [.ref r0, .ref r1]) ∧ H r0 = some (tp X) ∧ H r1 = some (tp Y)
theorem Tb.same {H H' : Hp} {t : Addr} {X Y : List Int} (h : Tb H t X Y) (s : Same H H') : Tb H' t X Y := by
  obtain ⟨r0, r1, h1, h2, h3⟩ := h
  exact ⟨r0, r1, s _ _ h1, s _ _ h2, s _ _ h3⟩
theorem Tb.sx {H H' : Hp} {t d : Addr} {X Y : List Int} (h : Tb H t X Y) (hd : Dc H d) (s : Sx d H H') : Tb H' t X Y := by
  obtain ⟨r0, r1, h1, h2, h3⟩ := h
  exact ⟨r0, r1, s _ _ (dc_ne hd h1) h1, s _ _ (dc_ne hd h2) h2, s _ _ (dc_ne hd h3) h3⟩
/-- short pairs -/
structure Pr2 (X : List Int) : Prop where
  len : X.length = 2
  sho : ∀ x ∈ X, Sho x
def spIsChange : Sp := fun vs H Q _ => ∃ (t : Addr) (X Y : List Int), vs = [.ref t] ∧ Tb H t X Y ∧ Pr2 X ∧ Pr2 Y ∧ ∀ H', Same H H' → Q (.bl true) H'
theorem ok_is_change (T : Facts K mg) : FnOk P w K mg base CX0 4 T.f_is_change T.fd_is_change ["value"] spIsChange := by
  have G_are_short : FnOk P w K mg base CX0 3 T.f_are_short T.fd_are_short ["value"] spAreShort := ok_are_short T
  refine T.F_is_change.ok sc_is_change (fun vs H Q E h => ?_) (fun cdv A outer s H vs Q E hr h => ?_)
  · obtain ⟨t, X, Y, rfl, _⟩ := h
    rfl
  · obtain ⟨t, X, Y, rfl, ⟨r0, r1, h1, h2, h3⟩, hX, hY, q⟩ := h
    refine ⟨_, (PSs.nox (pss_cons (ps_if (pw_or (pt_not (pt_val (pe_callB call_isi (by rfl) T.z_isinstance (by decide +kernel) (pa_cons (pv 0) (pa_cons (pe_bltn (v := .ty "tuple") (by rfl) T.z_tuple (by decide +kernel) rfl) pa_nil))))) (pw_or1 (pt_cmpR op_ne (pe_callB call_len_seq (by rfl) T.z_len (by decide +kernel) (pa_cons (pv 0) pa_nil)) pe_int (nomark _)))).pt
      (pss_one (ps_ret pe_bl))
      pss_nil)
    (pss_one (ps_ret (pe_callB (cr_all (by rfl)) (by rfl) T.z_all (by decide +kernel) (pa_cons (pe_lc (own := [("row", 1)]) (g := (gName 1)) (tt := tYes) (by rfl) sc_is_change.nd (pi_tup (pv 0)) (blkOk_by (N := N_is_change) (sc := defScope s_is_change) (by decide +kernel)) (fun _ _ _ _ _ => (pg_name (i := 1) sc_is_change.nd rfl (.inl rfl))) (fun _ _ _ _ _ => pts_nil) (fun _ _ _ _ _ => (pe_and (pe_call G_are_short hr (by rfl) T.g_are_short T.F_are_short.kp T.b_are_short .nil pass0 (pa_cons (pv 1) pa_nil)) (pe_one (pe_cmpR op_eq (pe_callB (call_len_seq : CallR _ _ (Evl.rLenS K)) (by rfl) T.z_len (by decide +kernel) (pa_cons (pv 1) pa_nil)) pe_int (nomark _)))))) pa_nil)))))), ?_⟩
    refine ⟨_, rfl, .ref t, .ty "tuple", .type "tuple", .type "tuple", true, rfl, .ty "tuple", .base (.tup h1), kit_ty (show kitB "tuple" "tuple" = some true by decide +kernel), true, rfl, iteF ?_⟩
    refine ⟨_, rfl, t, _, rfl, .inr (SqT.of h1), rfl, _, rfl, iteF ?_⟩
    refine ⟨_, rfl, t, rfl, ⟨_, SqT.of h1⟩, fun D hD => lc_tup (xs := [.ref r0, .ref r1]) (fun i H' => Same H H' ∧ H' D = some (.lst (List.replicate i (V.bl true)))) ⟨same_upd0 hD, upd_same⟩ (fun i H' _ hP => SqT.of (hP.1 _ _ h1)) (fun i x H' hx hP => ?_) (fun H' hP => ?_)⟩
    · obtain ⟨sH, hL⟩ := hP
      obtain ⟨r, Z, rfl, hr2, hZ⟩ : ∃ r Z, x = .ref r ∧ H r = some (tp Z) ∧ Pr2 Z := by
        have hm := List.mem_of_getElem? hx
        simp only [List.mem_cons, List.not_mem_nil, or_false] at hm
        rcases hm with e | e <;> rw [e]
        · exact ⟨_, _, rfl, h2, hX⟩
        · exact ⟨_, _, rfl, h3, hY⟩
      have hi2 : i < 2 := (List.getElem?_eq_some_iff.mp hx).1
      refine ⟨rfl, _, rfl, r, Z, rfl, sH _ _ hr2, by rw [hZ.len]; decide, hZ.sho, fun H2 s2 => ⟨true, rfl, iteT ⟨_, rfl, r, _, rfl, .inr (SqT.of (s2 _ _ (sH _ _ hr2))), rfl, _, s2 _ _ hL, ?_, fun b o e => ?_, ?_⟩⟩⟩
      · rw [List.length_replicate]
        exact small1000 (by omega)
      · rw [upd_ne (ne_of_none e hD)]
        exact s2 _ _ (sH _ _ e)
      · rw [upd_same, List.length_map, hZ.len, List.replicate_succ']
        rfl
    · obtain ⟨sH, hL⟩ := hP
      exact ⟨D, [true, true], rfl, SqL.of hL, q _ sH⟩
def spReqChange : Sp := fun vs H Q _ => ∃ (t : Addr) (X Y : List Int), vs = [.ref t] ∧ Tb H t X Y ∧ Pr2 X ∧ Pr2 Y ∧ ∀ H', Same H H' → Q .non H'
theorem ok_require_change (T : Facts K mg) : FnOk P w K mg base CX0 5 T.f_require_change T.fd_require_change ["value"] spReqChange := by
  have G_is_change := ok_is_change (P := P) (w := w) (base := base) T
  refine T.F_require_change.ok sc_require_change (fun vs H Q E h => ?_) (fun cdv A outer s H vs Q E hr h => ?_)
  · obtain ⟨t, X, Y, rfl, _⟩ := h
    rfl
  · obtain ⟨t, X, Y, rfl, ht, hX, hY, q⟩ := h
    refine ⟨_, (PSs.nox (pss_one (ps_if (pt_not (pt_val (pe_call G_is_change hr (by rfl) T.g_is_change T.F_is_change.kp T.b_is_change .nil pass0 (pa_cons (pv 0) pa_nil))))
      (pss_one ps_never)
      pss_nil))), ?_⟩
    exact ⟨_, rfl, t, X, Y, rfl, ht, hX, hY, fun H' s => ⟨true, rfl, iteF (q H' s)⟩⟩
theorem sIx_neg {n : Nat} (h : 1 ≤ n) : HT.sIx n n (some (-1)) = n - 1 := by
  unfold HT.sIx
  simp only []
  split <;> omega
theorem cut_tail (xs : List V) (h : 1 ≤ xs.length) : cutV xs (some 1) none = xs.drop 1 := by
  unfold cutV
  have e1 : HT.sIx xs.length 0 (some 1) = 1 := by
    unfold HT.sIx
    simp only []
    split <;> omega
  have e2 : HT.sIx xs.length xs.length none = xs.length := rfl
  rw [e1, e2]
  exact List.take_of_length_le (by rw [List.length_drop]; omega)
theorem cut_init (xs : List V) (h : 1 ≤ xs.length) : cutV xs none (some (-1)) = xs.take (xs.length - 1) := by
  unfold cutV
  have e1 : HT.sIx xs.length 0 none = 0 := rfl
  rw [e1, sIx_neg h, List.drop_zero, Nat.sub_zero]
/-- all that is made on the way is let -/
def ChOk (X Y : List Int) : List Int → List Int → List Int → Prop
  | [], _, _ => True
  | e :: r, f, p => Rw f ∧ Rw p ∧ sm e ∧ Rw (ml p Y) ∧ Rw (ml f X) ∧ ChOk X Y r (zs e (ml f X) (ml p Y)) (ml p Y)
def spChanged : Sp := fun vs H Q _ => ∃ (a t : Addr) (l X Y : List Int), vs = [.ref a, .ref t] ∧ H a = some (tp l) ∧ Tb H t X Y ∧ l ≠ [] ∧ l.length ≤ 100 ∧ X.length = 2 ∧ Y.length = 2 ∧ Rw X ∧ Rw Y ∧ ChOk X Y l.tail [co l 0] [1] ∧ ∀ p H', Same H H' → H' p = some (tp (changed X Y l)) → Q (.ref p) H'
theorem ok_changed_in (T : Facts K mg) : FnOk P w K mg base CX0 3 T.f_changed_in T.fd_changed_in ["entries", "table"] spChanged := by
  have G_product_in := ok_product_in (P := P) (w := w) (base := base) T
  refine T.F_changed_in.ok sc_changed_in (fun vs H Q E h => ?_) (fun cdv A outer s H vs Q E hr h => ?_)
  · obtain ⟨a, t, l, X, Y, rfl, _⟩ := h
    rfl
  · obtain ⟨a, t, l, X, Y, rfl, ha, ht, nl, hl, lX, lY, rX, rY, ok, q⟩ := h
    obtain ⟨r0, r1, h1, h2, h3⟩ := ht
    have pl : 0 < l.length := List.length_pos_iff.mpr nl
    refine ⟨_, (PSs.nox (pss_cons (ps_par (i := 2) (j := 3) (by rfl) sc_changed_in.nd rfl rfl (by decide) rfl rfl (pa_cons (pe_tup (pa_cons (pe_ix ix_tup (pv 0) pe_int (fun _ _ => rfl)) pa_nil)) (pa_cons (pe_tup (pa_cons pe_int pa_nil)) pa_nil)) (by rfl))
    (pss_cons (ps_for PassesOwn.never (by rfl) (pi_tup (pe_slice sl_tupA (pv 0) (po_some pe_int) po_none)) (pg_name (i := 4) sc_changed_in.nd rfl (.inr rfl))
      (pss_cons (ps_set (i := 3) sc_changed_in.nd rfl (.inl rfl) (pe_call G_product_in hr (by rfl) T.g_product_in T.F_product_in.kp T.b_product_in .nil pass0 (pa_cons (pv 3) (pa_cons (pe_ix ix_tup (pv 1) pe_int (fun _ _ => rfl)) pa_nil))))
      (pss_cons (ps_set (i := 5) sc_changed_in.nd rfl (.inl rfl) (pe_call G_product_in hr (by rfl) T.g_product_in T.F_product_in.kp T.b_product_in .nil pass0 (pa_cons (pv 2) (pa_cons (pe_ix ix_tup (pv 1) pe_int (fun _ _ => rfl)) pa_nil))))
      (pss_one (ps_set (i := 2) sc_changed_in.nd rfl (.inl rfl) (pe_tupleOf (by rfl) T.z_tuple (pe_lc (own := [("first", 6), ("second", 7)]) (g := (gTup K 2 (gCons (gName 6) (gCons (gName 7) gNil)))) (tt := tYes) (by rfl) sc_changed_in.nd (pi_zipA (by rfl) T.z_zip (pa_cons (pv 5) (pa_cons (pv 3) pa_nil))) (blkOk_by (N := N_changed_in) (sc := defScope s_changed_in) (by decide +kernel)) (fun _ _ _ _ _ => (pg_tup (by rfl) (pgs_cons (pg_name (i := 6) sc_changed_in.nd rfl (.inl rfl)) (pgs_cons (pg_name (i := 7) sc_changed_in.nd rfl (.inl rfl)) pgs_nil)))) (fun _ _ _ _ _ => pts_nil) (fun _ _ _ _ _ => (pe_op op_add (pv 6) (pe_op op_mulW (pv 4) (pv 7)))))))))))
    (pss_one (ps_ret (pv 2)))))), ?_⟩
    refine ⟨_, rfl, a, _, 0, _, rfl, rfl, SqT.of ha, atI_nat (get_int pl), by show 1 ≤ sizeLine; decide, fun p0 n0 => gen_upd H p0 (tp [co l 0]) n0 fun H1 s1 f1 => ⟨by show 1 ≤ sizeLine; decide, fun p1 n1 => gen_upd H1 p1 (tp [1]) n1 fun H2 s2 f2 => ⟨_, _, rfl, ?_⟩⟩⟩
    have s02 := s1.trans s2
    have e1 : HT.sIx l.length 0 (some 1) = 1 := by
      unfold HT.sIx
      simp only []
      split <;> omega
    have ecut : HO.tup (cutV (l.map V.int) (some 1) none) = tp l.tail := by
      rw [cut_tail _ (by rw [List.length_map]; exact pl), ← List.map_drop, List.drop_one]
    refine ⟨_, rfl, 1, rfl, a, _, rfl, SqT.of (s02 _ _ ha), fun z => absurd z.1 (by rw [List.length_map, e1]; decide), fun _ p2 n2 => ?_⟩
    rw [ecut]
    refine gen_upd H2 p2 (tp l.tail) n2 fun H3 s3 f3 => ?_
    have s03 := s02.trans s3
    have ltail : l.tail.length = l.length - 1 := List.length_tail
    refine ⟨p2, rfl, ⟨_, SqT.of f3⟩, for_tup (xs := l.tail.map V.int) (fun i σ H' => ∃ (f p : List Int) (fa pa : Addr) (y4 y5 : Option V), σ = [some (.ref a), some (.ref t), some (.ref fa), some (.ref pa), y4, y5, none, none] ∧ Same H3 H' ∧ H' fa = some (tp f) ∧ H' pa = some (tp p) ∧ f.length = i + 1 ∧ p.length = i + 1 ∧ ChOk X Y (l.tail.drop i) f p ∧ chg X Y (l.tail.drop i) f p = changed X Y l) ⟨_, _, p0, p1, none, none, rfl, Same.rf _, (s2.trans s3) _ _ f1, s3 _ _ f2, rfl, rfl, ok, rfl⟩ (fun i σ H' _ hP => ?_) (fun i z σ H' hz hP => ?_) (fun σ H' hP => ?_)⟩
    · obtain ⟨f, p, fa, pa, y4, y5, _, sH, _⟩ := hP
      exact SqT.of (sH _ _ f3)
    · obtain ⟨f, p, fa, pa, y4, y5, rfl, sH, hf, hp, lf, lp, okI, eI⟩ := hP
      obtain ⟨hi, rfl⟩ := int_get hz
      have ed : l.tail.drop i = co l.tail i :: l.tail.drop (i + 1) := by
        rw [co_get hi]
        exact List.drop_eq_getElem_cons hi
      rw [ed] at okI eI
      obtain ⟨rf, rp, se, rpY, rfX, okN⟩ := okI
      have tH := s03.trans sH
      refine ⟨_, rfl, _, rfl, t, _, 1, _, rfl, rfl, SqT.of (tH _ _ h1), atI_nat (j := 1) rfl, pa, r1, p, Y, rfl, hp, tH _ _ h3, rp.ne, rY.ne, rp.len, rY.len, rp.sm, rY.sm, fun q1 J1 g1 _ k1 => ?_⟩
      have tJ1 := tH.trans g1
      refine ⟨_, rfl, _, rfl, t, _, 0, _, rfl, rfl, SqT.of (tJ1 _ _ h1), atI_nat (j := 0) rfl, fa, r0, f, X, rfl, g1 _ _ hf, tJ1 _ _ h2, rf.ne, rX.ne, rf.len, rX.len, rf.sm, rX.sm, fun q2 J2 g2 _ k2 => ?_⟩
      have k1' := g2 _ _ k1
      have l1 : (ml p Y).length = i + 2 := by rw [ml_len, lp, lY]; omega
      have l2 : (ml f X).length = i + 2 := by rw [ml_len, lf, lX]; omega
      refine ⟨_, rfl, _, rfl, q2, q1, _, _, rfl, .inr ⟨SqT.of k2, SqT.of k1', fun D hD => ?_⟩⟩
      refine lc_zipT (xs := (ml f X).map V.int) (ys := (ml p Y).map V.int) (by rw [List.length_map, List.length_map, l1, l2]) (fun j H' => Same J2 H' ∧ H' D = some (.lst (tab j fun k => co (ml f X) k + co l.tail i * co (ml p Y) k))) ⟨same_upd0 hD, upd_same⟩ (fun j H' _ hP => ⟨SqT.of (hP.1 _ _ k2), SqT.of (hP.1 _ _ k1')⟩) (fun j x y T H' hx hy hP hT => ?_) (fun H4 hP => ?_)
      · obtain ⟨sH4, hD'⟩ := hP
        obtain ⟨hj, rfl⟩ := int_get hx
        obtain ⟨hj2, rfl⟩ := int_get hy
        have sT := same_upd0 (o := .tup [.int (co (ml f X) j), .int (co (ml p Y) j)]) hT
        refine ⟨T, _, rfl, SqT.of upd_same, rfl, _, _, rfl, _, _, rfl, rfl, rfl, _, rfl, _, rfl, _, rfl, _, _, rfl, rfl, sm_mul se (sm_co rpY.sm hj2), _, _, rfl, rfl, _, sT _ _ hD', ?_, fun b o e => ?_, ?_⟩
        · rw [tab_len]
          exact small1000 (by omega)
        · rw [upd_ne (ne_of_none e hD)]
          exact sT _ _ (sH4 _ _ e)
        · rw [upd_same, ← tab_snoc]
      · obtain ⟨sH4, hD'⟩ := hP
        rw [List.length_map] at hD'
        refine .inl ⟨D, _, rfl, SqL.of hD', fun p5 n5 => ?_⟩
        rw [tab_tb, zs_tb (by rw [l1, l2])]
        refine gen_upd H4 p5 _ n5 fun H5 s5 f5 => ⟨_, _, p5, q1, _, _, rfl, ((sH.trans (g1.trans g2)).trans sH4).trans s5, f5, (sH4.trans s5) _ _ k1', by rw [zs_len (by rw [l1, l2]), l2], l1, okN, eI⟩
    · obtain ⟨f, p, fa, pa, y4, y5, rfl, sH, hf, hp, lf, lp, okI, eI⟩ := hP
      rw [List.length_map, List.drop_length] at eI
      refine ⟨_, rfl, q fa H' (s03.trans sH) ?_⟩
      rw [← eI]
      exact hf
end
end K10

set_option Elab.async false
set_option linter.all false
set_option maxRecDepth 100000
set_option maxHeartbeats 4000000
namespace K10
open PySem PySem.Spec PyProof.Rows L2 StX RZ MyR SlX OwnR OwnF EnumT
section
variable {P : Program} {w : World} {K : PySem.W.Frag} {mg : Str → Option Value} {base : Heap}
/-- all that is derived on the way is let -/
structure DdOk (i j : Nat) (l : List Int) : Prop where
  len : i + j + 1 ≤ l.length
  le : l.length ≤ 100
  sx : ∀ u, u ≤ i → ∀ z ∈ it dX u l, sm z
  sy : ∀ u, u ≤ j → ∀ z ∈ it dY u (it dX i l), sm z
def spDerived : Sp := fun vs H Q _ => ∃ (a : Addr) (l : List Int) (i j : Nat), vs = [.ref a, .int i, .int j] ∧ H a = some (tp l) ∧ DdOk i j l ∧ ∀ p H', Same H H' → H' p = some (tp (dd i j l)) → Q (.ref p) H'
theorem ecut_init {l : List Int} (h : 1 ≤ l.length) : HO.tup (cutV (l.map V.int) none (some (-1))) = tp (l.take (l.length - 1)) := by
  rw [cut_init _ (by rw [List.length_map]; exact h), ← List.map_take, List.length_map]
theorem ecut_tail {l : List Int} (h : 1 ≤ l.length) : HO.tup (cutV (l.map V.int) (some 1) none) = tp (l.drop 1) := by
  rw [cut_tail _ (by rw [List.length_map]; exact h), ← List.map_drop]
theorem co_take {l : List Int} {n k : Nat} (h : k < n) : co (l.take n) k = co l k := by
  unfold co
  rw [List.getD_eq_getElem?_getD, List.getD_eq_getElem?_getD, List.getElem?_take_of_lt h]
theorem co_drop1 (l : List Int) (k : Nat) : co (l.drop 1) k = co l (k + 1) := by
  unfold co
  rw [List.getD_eq_getElem?_getD, List.getD_eq_getElem?_getD, List.getElem?_drop, Nat.add_comm]
def spChangedM (C : Addr) : Sp := fun vs H Q _ => ∃ (a t : Addr) (l X Y : List Int), vs = [.ref a, .ref t] ∧ Fo C H a l ∧ Tb H t X Y ∧ l ≠ [] ∧ l.length ≤ 100 ∧ Pr2 X ∧ Pr2 Y ∧ ChOk X Y l.tail [co l 0] [1] ∧ ∀ p H', Same H H' → Fo C H' p (changed X Y l) → Q (.ref p) H'
theorem Pr2.rw {X : List Int} (h : Pr2 X) : Rw X := ⟨fun z => (by have := h.len; rw [z] at this; cases this), (by rw [h.len]; decide), fun x hx => Nat.lt_trans (h.sho x hx) (by decide)⟩
theorem ok_Form_changed (T : Facts K mg) : FnOk P w K mg base CX0 8 T.f_Form_changed T.fd_Form_changed ["self", "table"] (spChangedM T.C_Form) := by
  have G_require_change := ok_require_change (P := P) (w := w) (base := base) T
  have G_changed_in := ok_changed_in (P := P) (w := w) (base := base) T
  have G_form_of : FnOk P w K mg base CX0 7 T.f_form_of T.fd_form_of ["entries"] (spMake T.C_Form) := ok_form_of T
  refine T.F_Form_changed.ok sc_Form_changed (fun vs H Q E h => ?_) (fun cdv A outer s H vs Q E hr h => ?_)
  · obtain ⟨a, t, l, X, Y, rfl, _⟩ := h
    rfl
  · obtain ⟨a, t, l, X, Y, rfl, fa, tb, nl, hl, pX, pY, ok, q⟩ := h
    refine ⟨_, (PSs.nox (pss_cons (ps_expr (pe_call G_require_change (hr.mono (by decide)) (by rfl) T.g_require_change T.F_require_change.kp T.b_require_change .nil pass0 (pa_cons (pv 1) pa_nil)))
    (pss_one (ps_ret (pe_call G_form_of hr (by rfl) T.g_form_of T.F_form_of.kp T.b_form_of .nil pass0 (pa_cons (pe_call G_changed_in (hr.mono (by decide)) (by rfl) T.g_changed_in T.F_changed_in.kp T.b_changed_in .nil pass0 (pa_cons (pe_sl (pv 0)) (pa_cons (pv 1) pa_nil))) pa_nil)))))), ?_⟩
    refine ⟨_, rfl, t, X, Y, rfl, tb, pX, pY, fun H1 s1 => ?_⟩
    obtain ⟨dx, u, ha, hu⟩ := (fa.same s1).slt
    exact ⟨_, rfl, a, T.C_Form, dx, T.a_own_entries, _, 0, .ref u, rfl, ha, T.oc_Form.scl, T.sl_own_entries, rfl, _, rfl, u, t, l, X, Y, rfl, hu, tb.same s1, nl, hl, pX.len, pY.len, pX.rw, pY.rw, ok, fun p H2 s2 hp => ⟨p, _, rfl, hp, fun p2 H3 s3 n3 f3 => q p2 H3 ((s1.trans s2).trans s3) f3⟩⟩
end
end K10

set_option Elab.async false
set_option linter.all false
set_option maxRecDepth 100000
set_option maxHeartbeats 4000000
namespace K10
open PySem PySem.Spec PyProof.Rows L2 StX RZ MyR SlX OwnR OwnF EnumT
/-! ### how large changed and derived forms are -/
theorem bd_zs' {l m : List Int} {n b c : Nat} (e : Int) (h : Bd l n b) (g : Bd m n c) : Bd (zs e l m) n (b + e.natAbs * c) := by
  have hz : zs e l m = zs 1 l (m.map (e * ·)) := by
    refine co_inj (by rw [zs_len (by rw [h.len, g.len]), zs_len (by rw [List.length_map, h.len, g.len])]) fun k => ?_
    rw [co_zs' e (by rw [h.len, g.len]), co_zs' 1 (by rw [List.length_map, h.len, g.len]), co_map, Int.one_mul]
  rw [hz]
  exact bd_zs h (bd_scale g (Nat.le_refl _))
theorem nm_cons (x : Int) (xs : List Int) : nm (x :: xs) = x.natAbs + nm xs := rfl
theorem chg_bd {X Y : List Int} {b : Nat} (hX : Bd X 1 b) (hY : Bd Y 1 b) : ∀ (r f p : List Int) (k S : Nat), Bd f k (S * b ^ k) → Bd p k (b ^ k) → Bd (chg X Y r f p) (k + r.length) ((S + nm r) * b ^ (k + r.length))
  | [], f, p, k, S, hf, hp => hf
  | e :: r, f, p, k, S, hf, hp => by
    have h1 := bd_ml hf hX
    have h2 := bd_ml hp hY
    have h3 := bd_zs' e h1 h2
    have h4 : Bd (zs e (ml f X) (ml p Y)) (k + 1) ((S + e.natAbs) * b ^ (k + 1)) := by
      refine h3.mono (Nat.le_of_eq ?_)
      rw [Nat.add_mul, Nat.pow_succ, Nat.mul_assoc]
    have h5 := chg_bd hX hY r _ _ (k + 1) (S + e.natAbs) h4 (by rw [Nat.pow_succ]; exact h2)
    rw [List.length_cons, nm_cons, show k + (r.length + 1) = k + 1 + r.length by omega, show S + (e.natAbs + nm r) = S + e.natAbs + nm r by omega]
    exact h5
theorem chOk_of {X Y : List Int} {b : Nat} (hb : 1 ≤ b) (hX : Bd X 1 b) (hY : Bd Y 1 b) : ∀ (r f p : List Int) (k S : Nat), Bd f k (S * b ^ k) → Bd p k (b ^ k) → k + r.length ≤ 90 → (S + nm r + 1) * b ^ (k + r.length) < 2 ^ 400 → ChOk X Y r f p
  | [], _, _, _, _, _, _, _, _ => True.intro
  | e :: r, f, p, k, S, hf, hp, hk, hB => by
    have h1 := bd_ml hf hX
    have h2 := bd_ml hp hY
    have h3 := bd_zs' e h1 h2
    have h4 : Bd (zs e (ml f X) (ml p Y)) (k + 1) ((S + e.natAbs) * b ^ (k + 1)) := by
      refine h3.mono (Nat.le_of_eq ?_)
      rw [Nat.add_mul, Nat.pow_succ, Nat.mul_assoc]
    rw [List.length_cons] at hk hB
    rw [nm_cons] at hB
    have pk : b ^ k ≤ b ^ (k + (r.length + 1)) := Nat.pow_le_pow_right hb (by omega)
    have pk1 : b ^ (k + 1) ≤ b ^ (k + (r.length + 1)) := Nat.pow_le_pow_right hb (by omega)
    have fin : ∀ c d : Nat, c ≤ S + (e.natAbs + nm r) + 1 → d ≤ b ^ (k + (r.length + 1)) → c * d < 2 ^ 400 := fun c d hc hd => Nat.lt_of_le_of_lt (Nat.mul_le_mul hc hd) hB
    have f1 := fin S _ (by omega) pk
    have f2 := fin 1 _ (by omega) pk
    have f3 := fin e.natAbs 1 (by omega) (Nat.pow_pos hb)
    have f4 := fin 1 _ (by omega) pk1
    have f5 := fin S _ (by omega) pk1
    rw [Nat.one_mul] at f2 f4
    rw [Nat.mul_one] at f3
    refine ⟨hf.rw (by omega) f1, hp.rw (by omega) f2, f3, h2.rw (by omega) (by rw [← Nat.pow_succ]; exact f4), h1.rw (by omega) (by rw [Nat.mul_assoc, ← Nat.pow_succ]; exact f5), ?_⟩
    refine chOk_of hb hX hY r _ _ (k + 1) (S + e.natAbs) h4 (by rw [Nat.pow_succ]; exact h2) (by omega) ?_
    rw [show k + 1 + r.length = k + (r.length + 1) by omega]
    exact Nat.lt_of_le_of_lt (Nat.mul_le_mul (by omega) (Nat.le_refl _)) hB
theorem changed_bd {X Y l : List Int} {n b B : Nat} (hX : Bd X 1 b) (hY : Bd Y 1 b) (hl : Bd l n B) : Bd (changed X Y l) n (B * b ^ n) := by
  match l, hl with
  | a :: r, hl =>
    have hr : r.length = n := by have := hl.len; rw [List.length_cons] at this; omega
    have h0 : Bd [a] 0 (a.natAbs * b ^ 0) := ⟨rfl, by show a.natAbs + 0 ≤ _; rw [Nat.pow_zero]; omega⟩
    have := chg_bd hX hY r [a] [1] 0 a.natAbs h0 bd_one
    rw [Nat.zero_add, hr] at this
    exact this.mono (Nat.mul_le_mul (by have := hl.nm; rw [nm_cons] at this; exact this) (Nat.le_refl _))
theorem changed_ok {X Y l : List Int} {n b B : Nat} (hb : 1 ≤ b) (hX : Bd X 1 b) (hY : Bd Y 1 b) (hl : Bd l n B) (hn : n ≤ 90) (hB : (B + 1) * b ^ n < 2 ^ 400) : ChOk X Y l.tail [co l 0] [1] := by
  match l, hl with
  | a :: r, hl =>
    have hr : r.length = n := by have := hl.len; rw [List.length_cons] at this; omega
    have h0 : Bd [a] 0 (a.natAbs * b ^ 0) := ⟨rfl, by show a.natAbs + 0 ≤ _; rw [Nat.pow_zero]; omega⟩
    refine chOk_of hb hX hY r [a] [1] 0 a.natAbs h0 bd_one (by omega) ?_
    rw [Nat.zero_add, hr]
    exact Nat.lt_of_le_of_lt (Nat.mul_le_mul (by have := hl.nm; rw [nm_cons] at this; omega) (Nat.le_refl _)) hB
theorem sN_le_mul {f g : Nat → Int} {c : Nat} : ∀ n, (∀ k, k < n → (f k).natAbs ≤ c * (g k).natAbs) → sN n f ≤ c * sN n g
  | 0, _ => Nat.zero_le _
  | n + 1, h => by
    show sN n f + (f n).natAbs ≤ c * (sN n g + (g n).natAbs)
    have h1 := sN_le_mul n fun k hk => h k (by omega)
    have h2 := h n (by omega)
    rw [Nat.mul_add]
    omega
theorem nm_drop1 (l : List Int) : nm (l.drop 1) ≤ nm l := by
  cases l with
  | nil => exact Nat.le_refl _
  | cons x xs => exact Nat.le_add_left _ _
theorem nm_dX (l : List Int) : nm (dX l) ≤ l.length * nm l := by
  unfold dX
  rw [nm_tb]
  refine Nat.le_trans (sN_le_mul (g := co l) (c := l.length) _ fun k hk => ?_) (Nat.mul_le_mul (Nat.le_refl _) (sN_co l _))
  rw [Int.natAbs_mul, Nat.mul_comm]
  exact Nat.mul_le_mul (by omega) (Nat.le_refl _)
theorem nm_dY (l : List Int) : nm (dY l) ≤ l.length * nm l := by
  unfold dY
  rw [nm_tb]
  refine Nat.le_trans (sN_le_mul (g := co (l.drop 1)) (c := l.length) _ fun k hk => ?_) (Nat.mul_le_mul (Nat.le_refl _) (Nat.le_trans (sN_co (l.drop 1) _) (nm_drop1 l)))
  rw [Int.natAbs_mul, Nat.mul_comm, co_drop1]
  exact Nat.mul_le_mul (by omega) (Nat.le_refl _)
theorem nm_dX_it (l : List Int) : ∀ u, nm (it dX u l) ≤ l.length ^ u * nm l
  | 0 => by rw [Nat.pow_zero, Nat.one_mul]; exact Nat.le_refl _
  | u + 1 => by
    have h1 := nm_dX (it dX u l)
    have h2 := nm_dX_it l u
    rw [dX_it_len] at h1
    show nm (dX (it dX u l)) ≤ _
    rw [Nat.pow_succ, Nat.mul_comm (l.length ^ u), Nat.mul_assoc]
    exact Nat.le_trans h1 (Nat.mul_le_mul (by omega) h2)
theorem nm_dY_it (l : List Int) : ∀ u, nm (it dY u l) ≤ l.length ^ u * nm l
  | 0 => by rw [Nat.pow_zero, Nat.one_mul]; exact Nat.le_refl _
  | u + 1 => by
    have h1 := nm_dY (it dY u l)
    have h2 := nm_dY_it l u
    rw [dY_it_len] at h1
    show nm (dY (it dY u l)) ≤ _
    rw [Nat.pow_succ, Nat.mul_comm (l.length ^ u), Nat.mul_assoc]
    exact Nat.le_trans h1 (Nat.mul_le_mul (by omega) h2)
theorem nm_dd (i j : Nat) (l : List Int) (h : 1 ≤ l.length) : nm (dd i j l) ≤ l.length ^ (i + j) * nm l := by
  unfold dd
  refine Nat.le_trans (nm_dY_it (it dX i l) j) ?_
  rw [dX_it_len]
  refine Nat.le_trans (Nat.mul_le_mul (Nat.pow_le_pow_left (show l.length - i ≤ l.length by omega) j) (nm_dX_it l i)) (Nat.le_of_eq ?_)
  rw [Nat.pow_add, ← Nat.mul_assoc, Nat.mul_comm (l.length ^ j)]
end K10

set_option Elab.async false
set_option linter.all false
set_option maxRecDepth 100000
set_option maxHeartbeats 4000000
namespace K10
open PySem PySem.Spec PyProof.Rows L2 StX RZ MyR SlX OwnR OwnF EnumT
section
variable {P : Program} {w : World} {K : PySem.W.Frag} {mg : Str → Option Value} {base : Heap}
def spByX : Sp := fun vs H Q _ => ∃ (a : Addr) (m : List Int), vs = [.ref a] ∧ H a = some (tp m) ∧ 1 ≤ m.length ∧ m.length ≤ 100 ∧ (∀ z ∈ m, sm z) ∧ ∀ p H', Same H H' → H' p = some (tp (dX m)) → Q (.ref p) H'
theorem ok_law_by_x (T : Facts K mg) : FnOk P w K mg base CX0 1 T.f_law_by_x T.fd_law_by_x ["_law_form_here"] spByX := by
  refine T.F_law_by_x.ok sc_law_by_x (fun vs H Q E h => ?_) (fun cdv A outer s H vs Q E hr h => ?_)
  · obtain ⟨a, m, rfl, _⟩ := h
    rfl
  · obtain ⟨a, m, rfl, ha, h1, h2, sm1, q⟩ := h
    refine ⟨_, (PSs.nox (pss_one (ps_ret (pe_tupleOf (by rfl) T.z_tuple (pe_lc (own := [("_law_at", 1), ("_law_entry", 2)]) (g := (gTup K 2 (gCons (gName 1) (gCons (gName 2) gNil)))) (tt := tYes) (by rfl) sc_law_by_x.nd (pi_enumT (by rfl) T.z_enumerate (pa_cons (pe_slice sl_tupA (pv 0) po_none (po_some (pe_un un_neg pe_int))) pa_nil)) (blkOk_by (N := N_law_by_x) (sc := defScope s_law_by_x) (by decide +kernel)) (fun _ _ _ _ _ => (pg_tup (by rfl) (pgs_cons (pg_name (i := 1) sc_law_by_x.nd rfl (.inl rfl)) (pgs_cons (pg_name (i := 2) sc_law_by_x.nd rfl (.inl rfl)) pgs_nil)))) (fun _ _ _ _ _ => pts_nil) (fun _ _ _ _ _ => (pe_op op_mulW (pv 2) (pe_op op_sub (pe_op op_sub (pe_callB (call_len_seq : CallR _ _ (Evl.rLenS K)) (by rfl) T.z_len (by decide +kernel) (pa_cons (pv 0) pa_nil)) pe_int) (pv 1))))))))), ?_⟩
    refine ⟨_, rfl, _, rfl, _, rfl, a, _, rfl, SqT.of ha, fun z => absurd z.2 (by rw [List.length_map, sIx_neg (by omega)]; omega), fun _ p np => ?_⟩
    rw [ecut_init (by omega)]
    refine gen_upd H p _ np fun H2 s2 f2 => ⟨p, _, rfl, SqT.of f2, fun D hD => lc_enumT (xs := (m.take (m.length - 1)).map V.int) (fun k H' => Same H2 H' ∧ H' D = some (.lst (tab k fun k => co m k * ((m.length : Int) - 1 - k)))) ⟨same_upd0 hD, upd_same⟩ (fun k H' _ hP => SqT.of (hP.1 _ _ f2)) (fun k x B H' hx hP hB => ?_) (fun H3 hP => ?_)⟩
    · obtain ⟨sH, hL⟩ := hP
      obtain ⟨hk, rfl⟩ := int_get hx
      rw [List.length_take] at hk
      rw [co_take (by omega)]
      refine gen_upd H' B _ hB fun H4 s4 f4 => ⟨B, _, rfl, SqT.of f4, rfl, _, _, rfl, _, _, rfl, rfl, rfl, ?_⟩
      have hfB := (s2.trans (sH.trans s4)) _ _ ha
      refine ⟨_, rfl, _, rfl, a, _, rfl, .inr (SqT.of hfB), ?_⟩
      rw [List.length_map]
      refine ⟨_, _, rfl, rfl, _, rfl, _, _, rfl, rfl, _, _, rfl, rfl, sm_mul (sm_co sm1 (by omega)) (Nat.lt_of_le_of_lt (show ((m.length : Int) - 1 - (k : Int)).natAbs ≤ 100 by omega) (Nat.lt_of_lt_of_le (show 100 < 2 ^ 7 by decide) (Nat.pow_le_pow_right (by decide) (by decide)))), _, s4 _ _ hL, ?_, fun b o e => ?_, ?_⟩
      · rw [tab_len]
        exact small1000 (by omega)
      · rw [upd_ne (ne_of_none e hD)]
        exact s4 _ _ (sH _ _ e)
      · rw [upd_same, ← tab_snoc]
    · obtain ⟨sH, hL⟩ := hP
      rw [List.length_map, List.length_take, Nat.min_eq_left (by omega), tab_tb] at hL
      exact .inl ⟨D, _, rfl, SqL.of hL, fun p5 n5 => q p5 _ (s2.trans (sH.trans (same_upd0 n5))) upd_same⟩
def spByY : Sp := fun vs H Q _ => ∃ (a : Addr) (m : List Int), vs = [.ref a] ∧ H a = some (tp m) ∧ 1 ≤ m.length ∧ m.length ≤ 100 ∧ (∀ z ∈ m, sm z) ∧ ∀ p H', Same H H' → H' p = some (tp (dY m)) → Q (.ref p) H'
theorem ok_law_by_y (T : Facts K mg) : FnOk P w K mg base CX0 1 T.f_law_by_y T.fd_law_by_y ["_law_form_here"] spByY := by
  refine T.F_law_by_y.ok sc_law_by_y (fun vs H Q E h => ?_) (fun cdv A outer s H vs Q E hr h => ?_)
  · obtain ⟨a, m, rfl, _⟩ := h
    rfl
  · obtain ⟨a, m, rfl, ha, h1, h2, sm1, q⟩ := h
    refine ⟨_, (PSs.nox (pss_one (ps_ret (pe_tupleOf (by rfl) T.z_tuple (pe_lc (own := [("_law_at", 1), ("_law_entry", 2)]) (g := (gTup K 2 (gCons (gName 1) (gCons (gName 2) gNil)))) (tt := tYes) (by rfl) sc_law_by_y.nd (pi_enumT (by rfl) T.z_enumerate (pa_cons (pe_slice sl_tupA (pv 0) (po_some pe_int) po_none) pa_nil)) (blkOk_by (N := N_law_by_y) (sc := defScope s_law_by_y) (by decide +kernel)) (fun _ _ _ _ _ => (pg_tup (by rfl) (pgs_cons (pg_name (i := 1) sc_law_by_y.nd rfl (.inl rfl)) (pgs_cons (pg_name (i := 2) sc_law_by_y.nd rfl (.inl rfl)) pgs_nil)))) (fun _ _ _ _ _ => pts_nil) (fun _ _ _ _ _ => (pe_op op_mulW (pv 2) (pe_op op_add (pv 1) pe_int)))))))), ?_⟩
    refine ⟨_, rfl, 1, rfl, a, _, rfl, SqT.of ha, fun z => absurd z.1 (by
      rw [List.length_map]
      unfold HT.sIx
      simp only []
      split <;> omega), fun _ p np => ?_⟩
    rw [ecut_tail (by omega)]
    refine gen_upd H p _ np fun H2 s2 f2 => ⟨p, _, rfl, SqT.of f2, fun D hD => lc_enumT (xs := (m.drop 1).map V.int) (fun k H' => Same H2 H' ∧ H' D = some (.lst (tab k fun k => co m (k + 1) * ((k : Int) + 1)))) ⟨same_upd0 hD, upd_same⟩ (fun k H' _ hP => SqT.of (hP.1 _ _ f2)) (fun k x B H' hx hP hB => ?_) (fun H3 hP => ?_)⟩
    · obtain ⟨sH, hL⟩ := hP
      obtain ⟨hk, rfl⟩ := int_get hx
      rw [List.length_drop] at hk
      rw [co_drop1]
      refine gen_upd H' B _ hB fun H4 s4 f4 => ⟨B, _, rfl, SqT.of f4, rfl, _, _, rfl, _, _, rfl, rfl, rfl, ?_⟩
      refine ⟨_, rfl, _, rfl, _, _, rfl, rfl, _, _, rfl, rfl, sm_mul (sm_co sm1 (by omega)) (Nat.lt_of_le_of_lt (show ((k : Int) + 1).natAbs ≤ 100 by omega) (Nat.lt_of_lt_of_le (show 100 < 2 ^ 7 by decide) (Nat.pow_le_pow_right (by decide) (by decide)))), _, s4 _ _ hL, ?_, fun b o e => ?_, ?_⟩
      · rw [tab_len]
        exact small1000 (by omega)
      · rw [upd_ne (ne_of_none e hD)]
        exact s4 _ _ (sH _ _ e)
      · rw [upd_same, ← tab_snoc]
    · obtain ⟨sH, hL⟩ := hP
      rw [List.length_map, List.length_drop, tab_tb] at hL
      exact .inl ⟨D, _, rfl, SqL.of hL, fun p5 n5 => q p5 _ (s2.trans (sH.trans (same_upd0 n5))) upd_same⟩
theorem ok_law_derived (T : Facts K mg) : FnOk P w K mg base CX0 2 T.f_law_derived T.fd_law_derived ["_law_form_here", "_law_one", "_law_other"] spDerived := by
  have G_law_by_x := ok_law_by_x (P := P) (w := w) (base := base) T
  have G_law_by_y := ok_law_by_y (P := P) (w := w) (base := base) T
  refine T.F_law_derived.ok sc_law_derived (fun vs H Q E h => ?_) (fun cdv A outer s H vs Q E hr h => ?_)
  · obtain ⟨a, l, i, j, rfl, _⟩ := h
    rfl
  · obtain ⟨a, l, i, j, rfl, ha, ok, q⟩ := h
    have hlen := ok.len
    have hle := ok.le
    refine ⟨_, (PSs.nox (pss_cons (ps_for PassesOwn.never (by rfl) (pi_range1 (by rfl) T.z_range (pa_cons (pv 1) pa_nil)) (pg_name (i := 3) sc_law_derived.nd rfl (.inl rfl))
      (pss_one (ps_set (i := 0) sc_law_derived.nd rfl (.inl rfl) (pe_call G_law_by_x hr (by rfl) T.g_law_by_x T.F_law_by_x.kp T.b_law_by_x .nil pass0 (pa_cons (pv 0) pa_nil)))))
    (pss_cons (ps_for PassesOwn.never (by rfl) (pi_range1 (by rfl) T.z_range (pa_cons (pv 2) pa_nil)) (pg_name (i := 3) sc_law_derived.nd rfl (.inl rfl))
      (pss_one (ps_set (i := 0) sc_law_derived.nd rfl (.inl rfl) (pe_call G_law_by_y hr (by rfl) T.g_law_by_y T.F_law_by_y.kp T.b_law_by_y .nil pass0 (pa_cons (pv 0) pa_nil)))))
    (pss_one (ps_ret (pv 0)))))), ?_⟩
    refine ⟨_, rfl, i, rfl, by omega, by omega, for_range (n := (i : Int).toNat) (fun u σ H' => ∃ fa y3, σ = [some (.ref fa), some (.int i), some (.int j), y3] ∧ Same H H' ∧ H' fa = some (tp (it dX u l))) ⟨a, none, rfl, Same.rf H, ha⟩ (fun u σ H1 hu hP => ?_) (fun σ H1 hP => ?_)⟩
    · obtain ⟨fa, y3, rfl, s1, hf⟩ := hP
      have lu := dX_it_len l u
      exact ⟨_, rfl, fa, _, rfl, hf, by omega, by omega, ok.sx u (by omega), fun p H2 s2 hp => ⟨p, _, rfl, s1.trans s2, hp⟩⟩
    · obtain ⟨fa, y3, rfl, s1, hf⟩ := hP
      rw [Int.toNat_natCast] at hf
      have lu0 := dX_it_len l i
      refine ⟨_, rfl, j, rfl, by omega, by omega, for_range (n := (j : Int).toNat) (fun u σ H' => ∃ fa y3, σ = [some (.ref fa), some (.int i), some (.int j), y3] ∧ Same H H' ∧ H' fa = some (tp (it dY u (it dX i l)))) ⟨fa, y3, rfl, s1, hf⟩ (fun u σ H1 hu hP => ?_) (fun σ H1 hP => ?_)⟩
      · obtain ⟨fa, y3, rfl, s1, hf⟩ := hP
        have lu := dY_it_len (it dX i l) u
        exact ⟨_, rfl, fa, _, rfl, hf, by omega, by omega, ok.sy u (by omega), fun p H2 s2 hp => ⟨p, _, rfl, s1.trans s2, hp⟩⟩
      · obtain ⟨fa, y3, rfl, s1, hf⟩ := hP
        rw [Int.toNat_natCast] at hf
        exact ⟨_, rfl, q fa H1 s1 hf⟩
theorem ok_law_value (T : Facts K mg) : FnOk P w K mg base CX0 1 T.f_law_value T.fd_law_value ["_law_form_here", "_law_x", "_law_y"] spValue := by
  refine T.F_law_value.ok sc_law_value (fun vs H Q E h => ?_) (fun cdv A outer s H vs Q E hr h => ?_)
  · obtain ⟨t, l, x, y, M, rfl, _⟩ := h
    rfl
  · obtain ⟨t, l, x, y, M, rfl, ht, hs, vb, q⟩ := h
    refine ⟨_, (PSs.nox (pss_cons (ps_asg (pe_tup (pa_cons pe_int (pa_cons pe_int pa_nil))) (pg_tup (by rfl) (pgs_cons (pg_name (i := 3) sc_law_value.nd rfl (.inl rfl)) (pgs_cons (pg_name (i := 4) sc_law_value.nd rfl (.inl rfl)) pgs_nil))))
    (pss_cons (ps_for PassesOwn.never (by rfl) (pi_tup (pv 0)) (pg_name (i := 5) sc_law_value.nd rfl (.inl rfl))
      (pss_one (ps_par (i := 3) (j := 4) (by rfl) sc_law_value.nd rfl rfl (by decide) rfl rfl (pa_cons (pe_op op_add (pe_op op_mulW (pv 3) (pv 1)) (pe_op op_mulW (pv 5) (pv 4))) (pa_cons (pe_op op_mulW (pv 4) (pv 2)) pa_nil)) (by rfl))))
    (pss_one (ps_ret (pv 3)))))), ?_⟩
    refine ⟨by show 2 ≤ sizeLine; decide, fun p0 n0 => gen_upd H p0 (.tup [.int 0, .int 1]) n0 fun H1 s1 f1 => ⟨p0, _, rfl, SqT.of f1, rfl, _, _, rfl, _, _, rfl, rfl, ?_⟩⟩
    have ht1 := s1 _ _ ht
    refine ⟨_, rfl, t, rfl, ⟨_, SqT.of ht1⟩, for_tup (xs := l.map V.int) (fun i σ H' => ∃ y5, σ = [some (.ref t), some (.int x), some (.int y), some (.int (vfs x y l i).1), some (.int (vfs x y l i).2), y5] ∧ H' = H1) ⟨none, rfl, rfl⟩ (fun i σ H' _ hP => by rw [hP.choose_spec.2]; exact SqT.of ht1) (fun i z σ H' hz hP => ?_) (fun σ H' hP => ?_)⟩
    · obtain ⟨y5, rfl, rfl⟩ := hP
      obtain ⟨hi, rfl⟩ := int_get hz
      obtain ⟨s1', s2'⟩ := vfs_sm vb i (by omega)
      obtain ⟨sx, sy⟩ := vb.smx
      exact ⟨_, rfl, _, rfl, _, _, rfl, rfl, sm_mul s1' sx, _, rfl, _, rfl, _, _, rfl, rfl, sm_mul (sm_co hs hi) s2', _, _, rfl, rfl, _, rfl, _, rfl, _, _, rfl, rfl, sm_mul s2' sy, _, _, rfl, _, rfl, rfl⟩
    · obtain ⟨y5, rfl, rfl⟩ := hP
      rw [List.length_map]
      refine ⟨_, rfl, ?_⟩
      rw [vfs_ev]
      exact q _ s1
/-- all that the law makes on its way is let -/
structure LchOk (X Y l : List Int) : Prop where
  ne : l ≠ []
  len : l.length ≤ 90
  lX : X.length = 2
  lY : Y.length = 2
  pX : ∀ i, i ≤ l.length → Rw (pow X i)
  pY : ∀ i, i ≤ l.length → Rw (pow Y i)
  pm : ∀ i, i < l.length → Rw (ml (pow X (l.length - 1 - i)) (pow Y i))
  sl : ∀ z ∈ l, sm z
end
end K10

set_option Elab.async false
set_option linter.all false
set_option maxRecDepth 100000
set_option maxHeartbeats 4000000
namespace K10
open PySem PySem.Spec PyProof.Rows L2 StX RZ MyR SlX OwnR OwnF EnumT
section
variable {P : Program} {w : World} {K : PySem.W.Frag} {mg : Str → Option Value} {base : Heap}
theorem sm_le {x : Int} {n : Nat} (h : x.natAbs ≤ n) (hn : n < 2 ^ 60) : sm x := Nat.lt_of_le_of_lt h (Nat.lt_of_lt_of_le hn (Nat.pow_le_pow_right (by decide) (by decide)))
def spTable : Sp := fun vs H Q _ => ∃ (d : Addr) (m : Nat), vs = [.ref d, .int m] ∧ Dc H d ∧ 1 ≤ m ∧ m ≤ 1000 ∧ ∀ p H' a b c e, Sx d H H' → Dc H' d → Tb H' p [a, b] [c, e] → a.natAbs ≤ m → b.natAbs ≤ m → c.natAbs ≤ m → e.natAbs ≤ m → a * e - b * c ≠ 0 → Q (.ref p) H'
theorem ok_law_table (T : Facts K mg) : FnOk P w K mg base CX0 3 T.f_law_table T.fd_law_table ["_law_dice_here", "_law_most"] spTable := by
  have G_law_near : FnOk P w K mg base CX0 2 T.f_law_near T.fd_law_near ["_law_dice_here", "_law_most"] spNear := ok_law_near T
  refine T.F_law_table.ok sc_law_table (fun vs H Q E h => ?_) (fun cdv A outer s H vs Q E hr h => ?_)
  · obtain ⟨d, m, rfl, _⟩ := h
    rfl
  · obtain ⟨d, m, rfl, hd, h1, h2, q⟩ := h
    have e15 : (10 : Int) ^ 15 = 1000000000000000 := by decide
    have z2 : 2 ≤ sizeLine := by decide
    refine ⟨_, (PSs.nox (pss_cons (ps_set (i := 2) sc_law_table.nd rfl (.inl rfl) (pe_tupleOf (by rfl) T.z_tuple (pe_lc (own := [("_law_row", 3)]) (g := (gName 3)) (tt := tYes) (by rfl) sc_law_table.nd (pi_range1 (by rfl) T.z_range (pa_cons pe_int pa_nil)) (blkOk_by (N := N_law_table) (sc := defScope s_law_table) (by decide +kernel)) (fun _ _ _ _ _ => (pg_name (i := 3) sc_law_table.nd rfl (.inl rfl))) (fun _ _ _ _ _ => pts_nil) (fun _ _ _ _ _ => (pe_tup (pa_cons (pe_call G_law_near hr (by rfl) T.g_law_near T.F_law_near.kp T.b_law_near .nil pass0 (pa_cons (pv 0) (pa_cons (pv 1) pa_nil))) (pa_cons (pe_call G_law_near hr (by rfl) T.g_law_near T.F_law_near.kp T.b_law_near .nil pass0 (pa_cons (pv 0) (pa_cons (pv 1) pa_nil))) pa_nil)))))))
    (pss_one (ps_ret (pe_ifExp (pt_cmpR op_ne (pe_op op_mulW (pe_ix ix_tup (pe_ix ix_tup (pv 2) pe_int (fun _ _ => rfl)) pe_int (fun _ _ => rfl)) (pe_ix ix_tup (pe_ix ix_tup (pv 2) pe_int (fun _ _ => rfl)) pe_int (fun _ _ => rfl))) (pe_op op_mulW (pe_ix ix_tup (pe_ix ix_tup (pv 2) pe_int (fun _ _ => rfl)) pe_int (fun _ _ => rfl)) (pe_ix ix_tup (pe_ix ix_tup (pv 2) pe_int (fun _ _ => rfl)) pe_int (fun _ _ => rfl))) (nomark _)) (pv 2) (pe_tup (pa_cons (pe_tup (pa_cons pe_int (pa_cons pe_int pa_nil))) (pa_cons (pe_tup (pa_cons pe_int (pa_cons pe_int pa_nil))) pa_nil)))))))), ?_⟩
    refine ⟨2, rfl, by decide, by decide, fun D hD => lc_range (n := (2 : Int).toNat) (fun j H' => Sx d H H' ∧ Dc H' d ∧ ∃ (rs : List Addr) (ls : List (List Int)), H' D = some (.lst (rs.map V.ref)) ∧ rs.length = j ∧ ls.length = j ∧ (∀ i (h : i < ls.length) (h' : i < rs.length), H' rs[i] = some (tp ls[i])) ∧ ∀ l ∈ ls, l.length = 2 ∧ ∀ x ∈ l, x.natAbs ≤ m) ⟨Sx.of (same_upd0 hD), hd.same (same_upd0 hD), [], [], upd_same, rfl, rfl, fun i h _ => absurd h (Nat.not_lt_zero i), fun l h => (nomatch h)⟩ (fun j H' hj hP => ?_) (fun H' hP => ?_)⟩
    · obtain ⟨sH, dH, rs, ls, hL, hl1, hl2, hr, hb⟩ := hP
      have nD : D ≠ d := hd.ne hD
      refine ⟨rfl, _, rfl, _, rfl, d, m, rfl, dH, by omega, by rw [e15]; omega, fun u H2 u1 u2 s2 d2 => ⟨_, rfl, _, rfl, d, m, rfl, d2, by omega, by rw [e15]; omega, fun v H3 v1 v2 s3 d3 => ⟨z2, fun p2 n2 => gen_upd H3 p2 (tp [u, v]) n2 fun H4 s4 f4 => ?_⟩⟩⟩
      have hL4 := s4 _ _ (s3 D _ nD (s2 D _ nD hL))
      have dD : ∀ a l, H4 a = some (tp l) → a ≠ D := fun a l e z => by
        rw [z, hL4] at e
        cases e
      have d4 := d3.same s4
      have hj2 : j < 2 := hj
      refine ⟨_, hL4, by rw [List.length_map, hl1]; exact small1000 (by omega), fun b o hb2 e => ?_, ?_, rs ++ [p2], ls ++ [[u, v]], by rw [upd_same, List.map_append]; rfl, by rw [List.length_append, hl1]; rfl, by rw [List.length_append, hl2]; rfl, fun i h h' => ?_, fun l hl => ?_⟩
      · rw [upd_ne (ne_of_none e hD)]
        exact s4 _ _ (s3 b o hb2 (s2 b o hb2 (sH b o hb2 e)))
      · obtain ⟨x, y, z, e⟩ := d4
        exact ⟨x, y, z, by rw [upd_ne (Ne.symm nD)]; exact e⟩
      · by_cases c : i < ls.length
        · have e1 : (rs ++ [p2])[i] = rs[i]'(by omega) := List.getElem_append_left _
          have e2 : (ls ++ [[u, v]])[i] = ls[i] := List.getElem_append_left _
          rw [e1, e2]
          have e3 := s3 _ _ (dc_ne d2 (s2 _ _ (dc_ne dH (hr i c (by omega))) (hr i c (by omega)))) (s2 _ _ (dc_ne dH (hr i c (by omega))) (hr i c (by omega)))
          rw [upd_ne (dD _ _ (s4 _ _ e3))]
          exact s4 _ _ e3
        · have ei : i = ls.length := by rw [List.length_append] at h; simp at h; omega
          subst ei
          have e1 : (rs ++ [p2])[ls.length] = p2 := by rw [List.getElem_append_right (by omega)]; simp [hl1, hl2]
          have e2 : (ls ++ [[u, v]])[ls.length] = [u, v] := by rw [List.getElem_append_right (by omega)]; simp
          rw [e1, e2, upd_ne (dD _ _ f4)]
          exact f4
      · rcases List.mem_append.mp hl with e | e
        · exact hb l e
        · rw [List.mem_singleton.mp e]
          refine ⟨rfl, fun x hx => ?_⟩
          simp only [List.mem_cons, List.not_mem_nil, or_false] at hx
          rcases hx with e | e <;> rw [e] <;> omega
    · obtain ⟨sH, dH, rs, ls, hL, hl1, hl2, hr, hb⟩ := hP
      match rs, hl1, ls, hl2, hL, hr, hb with
      | [r0, r1], _, [l0, l1], _, hL, hr, hb =>
        have k0 : H' r0 = some (tp l0) := hr 0 (by simp) (by simp)
        have k1 : H' r1 = some (tp l1) := hr 1 (by simp) (by simp)
        obtain ⟨b0, c0⟩ := hb l0 (by simp)
        obtain ⟨b1, c1⟩ := hb l1 (by simp)
        match l0, b0, l1, b1, k0, k1, c0, c1 with
        | [a, b], _, [c, e], _, k0, k1, c0, c1 =>
          have ba := c0 a (by simp)
          have bb := c0 b (by simp)
          have bc := c1 c (by simp)
          have be := c1 e (by simp)
          refine .inl ⟨D, _, rfl, SqL.of hL, fun p np => ?_⟩
          refine gen_upd H' p (.tup [.ref r0, .ref r1]) np fun H2 s2 f2 => ?_
          have k0' := s2 _ _ k0
          have k1' := s2 _ _ k1
          have sa := sm_le (n := 1000) (show a.natAbs ≤ 1000 by omega) (by decide)
          have sb := sm_le (n := 1000) (show b.natAbs ≤ 1000 by omega) (by decide)
          have sc := sm_le (n := 1000) (show c.natAbs ≤ 1000 by omega) (by decide)
          have se := sm_le (n := 1000) (show e.natAbs ≤ 1000 by omega) (by decide)
          refine ⟨_, rfl, p, _, 0, _, rfl, rfl, SqT.of f2, atI_nat (j := 0) rfl, r0, _, 0, _, rfl, rfl, SqT.of k0', atI_nat (j := 0) rfl, _, rfl, p, _, 1, _, rfl, rfl, SqT.of f2, atI_nat (j := 1) rfl, r1, _, 1, _, rfl, rfl, SqT.of k1', atI_nat (j := 1) rfl, _, _, rfl, rfl, sm_mul sa se, ?_⟩
          refine ⟨_, rfl, p, _, 0, _, rfl, rfl, SqT.of f2, atI_nat (j := 0) rfl, r0, _, 1, _, rfl, rfl, SqT.of k0', atI_nat (j := 1) rfl, _, rfl, p, _, 1, _, rfl, rfl, SqT.of f2, atI_nat (j := 1) rfl, r1, _, 0, _, rfl, rfl, SqT.of k1', atI_nat (j := 0) rfl, _, _, rfl, rfl, sm_mul sb sc, rfl, _, rfl, ?_⟩
          by_cases z : a * e = b * c
          · rw [decide_eq_true (show V.int (a * e) = V.int (b * c) by rw [z])]
            refine iteF ⟨z2, fun q0 m0 => gen_upd H2 q0 (tp [1, 1]) m0 fun H3 s3 f3 => ⟨z2, fun q1 m1 => gen_upd H3 q1 (tp [0, 1]) m1 fun H4 s4 f4 => ⟨z2, fun q2 m2 => gen_upd H4 q2 (.tup [.ref q0, .ref q1]) m2 fun H5 s5 f5 => ?_⟩⟩⟩
            have s25 := (s3.trans s4).trans s5
            exact q q2 H5 1 1 0 1 (sH.trans (Sx.of (s2.trans s25))) (dH.same (s2.trans s25)) ⟨q0, q1, f5, s5 _ _ (s4 _ _ f3), s5 _ _ f4⟩ (by show 1 ≤ m; omega) (by show 1 ≤ m; omega) (by show 0 ≤ m; omega) (by show 1 ≤ m; omega) (by decide)
          · rw [decide_eq_false fun y => z (V.int.inj y)]
            refine iteT ⟨_, rfl, q p H2 a b c e (sH.trans (Sx.of s2)) (dH.same s2) ⟨r0, r1, f2, k0', k1'⟩ ba bb bc be (by omega)⟩
def spDet : Sp := fun vs H Q _ => ∃ (t : Addr) (a b c e : Int), vs = [.ref t] ∧ Tb H t [a, b] [c, e] ∧ a.natAbs ≤ 1000000 ∧ b.natAbs ≤ 1000000 ∧ c.natAbs ≤ 1000000 ∧ e.natAbs ≤ 1000000 ∧ Q (.int (a * e - b * c)) H
theorem ok_law_det (T : Facts K mg) : FnOk P w K mg base CX0 1 T.f_law_det T.fd_law_det ["_law_table_here"] spDet := by
  refine T.F_law_det.ok sc_law_det (fun vs H Q E h => ?_) (fun cdv A outer s H vs Q E hr h => ?_)
  · obtain ⟨t, a, b, c, e, rfl, _⟩ := h
    rfl
  · obtain ⟨t, a, b, c, e, rfl, ⟨r0, r1, f2, k0, k1⟩, ba, bb, bc, be, q⟩ := h
    refine ⟨_, (PSs.nox (pss_one (ps_ret (pe_op op_sub (pe_op op_mulW (pe_ix ix_tup (pe_ix ix_tup (pv 0) pe_int (fun _ _ => rfl)) pe_int (fun _ _ => rfl)) (pe_ix ix_tup (pe_ix ix_tup (pv 0) pe_int (fun _ _ => rfl)) pe_int (fun _ _ => rfl))) (pe_op op_mulW (pe_ix ix_tup (pe_ix ix_tup (pv 0) pe_int (fun _ _ => rfl)) pe_int (fun _ _ => rfl)) (pe_ix ix_tup (pe_ix ix_tup (pv 0) pe_int (fun _ _ => rfl)) pe_int (fun _ _ => rfl))))))), ?_⟩
    refine ⟨_, rfl, t, _, 0, _, rfl, rfl, SqT.of f2, atI_nat (j := 0) rfl, r0, _, 0, _, rfl, rfl, SqT.of k0, atI_nat (j := 0) rfl, _, rfl, t, _, 1, _, rfl, rfl, SqT.of f2, atI_nat (j := 1) rfl, r1, _, 1, _, rfl, rfl, SqT.of k1, atI_nat (j := 1) rfl, _, _, rfl, rfl, sm_mul (sm_le ba (by decide)) (sm_le be (by decide)), ?_⟩
    exact ⟨_, rfl, t, _, 0, _, rfl, rfl, SqT.of f2, atI_nat (j := 0) rfl, r0, _, 1, _, rfl, rfl, SqT.of k0, atI_nat (j := 1) rfl, _, rfl, t, _, 1, _, rfl, rfl, SqT.of f2, atI_nat (j := 1) rfl, r1, _, 0, _, rfl, rfl, SqT.of k1, atI_nat (j := 0) rfl, _, _, rfl, rfl, sm_mul (sm_le bb (by decide)) (sm_le bc (by decide)), _, _, rfl, rfl, q⟩
end
end K10

set_option Elab.async false
set_option linter.all false
set_option maxRecDepth 100000
/-! layings: the plain law -/
namespace K10
theorem evF_cons (g : Nat → Int) (x y : Int) : ∀ m, evF (m + 1) g x y = g 0 * x ^ m + y * evF m (fun k => g (k + 1)) x y
  | 0 => by
    show x * 0 + g 0 * y ^ 0 = g 0 * x ^ 0 + y * 0
    rw [Int.pow_zero, Int.pow_zero]
    grind
  | m + 1 => by
    show x * evF (m + 1) g x y + g (m + 1) * y ^ (m + 1) = g 0 * x ^ (m + 1) + y * (x * evF m (fun k => g (k + 1)) x y + g (m + 1) * y ^ m)
    rw [evF_cons g x y m, Int.pow_succ, Int.pow_succ]
    generalize evF m (fun k => g (k + 1)) x y = w
    generalize x ^ m = A
    generalize y ^ m = B
    grind
theorem ev_tb (n : Nat) (f : Nat → Int) (x y : Int) : ev (tb n f) x y = evF n f x y := by
  unfold ev
  rw [tb_len]
  exact evF_congr _ fun i hi => by rw [co_tb, if_pos hi]
theorem ev_dX (l : List Int) (x y : Int) : ev (dX l) x y = evF (l.length - 1) (fun k => co l k * ((l.length : Int) - 1 - k)) x y := ev_tb _ _ x y
theorem ev_dY (l : List Int) (x y : Int) : ev (dY l) x y = evF (l.length - 1) (fun k => co l (k + 1) * ((k : Int) + 1)) x y := ev_tb _ _ x y
theorem ev_dX_cons (a : Int) (l : List Int) (x y : Int) : ev (dX (a :: l)) x y = a * l.length * x ^ (l.length - 1) + y * ev (dX l) x y := by
  rw [ev_dX, ev_dX]
  show evF (l.length + 1 - 1) _ x y = _
  rw [Nat.add_sub_cancel]
  cases hl : l.length with
  | zero =>
    show (0 : Int) = a * 0 * _ + y * 0
    grind
  | succ m =>
    rw [evF_cons]
    rw [show evF m (fun k => co (a :: l) (k + 1) * (((a :: l).length : Int) - 1 - ((k + 1 : Nat) : Int))) x y = evF (m + 1 - 1) (fun k => co l k * (((m + 1 : Nat) : Int) - 1 - k)) x y from by
      rw [Nat.add_sub_cancel]
      refine evF_congr _ fun k _ => ?_
      show co l k * (((a :: l).length : Int) - 1 - ((k + 1 : Nat) : Int)) = _
      congr 1
      rw [List.length_cons, hl]
      omega]
    show a * (((a :: l).length : Int) - 1 - ((0 : Nat) : Int)) * x ^ m + _ = _
    rw [List.length_cons, hl, Nat.add_sub_cancel, show (((m + 1 + 1 : Nat)) : Int) - 1 - ((0 : Nat) : Int) = ((m + 1 : Nat) : Int) by omega]
theorem ev_dY_cons (a : Int) (l : List Int) (x y : Int) : ev (dY (a :: l)) x y = ev l x y + y * ev (dY l) x y := by
  rw [ev_dY, ev_dY]
  show evF (l.length + 1 - 1) (fun k => co l k * ((k : Int) + 1)) x y = _
  rw [Nat.add_sub_cancel]
  have e1 : evF l.length (fun k => co l k * ((k : Int) + 1)) x y = ev l x y + evF l.length (fun k => co l k * (k : Int)) x y := by
    unfold ev
    rw [← evF_add]
    exact evF_congr _ fun k _ => by grind
  rw [e1]
  congr 1
  cases hl : l.length with
  | zero =>
    show (0 : Int) = y * 0
    rw [Int.mul_zero]
  | succ m =>
    rw [evF_cons, Nat.add_sub_cancel]
    show co l 0 * ((0 : Nat) : Int) * x ^ m + y * evF m (fun k => co l (k + 1) * ((k + 1 : Nat) : Int)) x y = _
    rw [show evF m (fun k => co l (k + 1) * ((k + 1 : Nat) : Int)) x y = evF m (fun k => co l (k + 1) * ((k : Int) + 1)) x y from evF_congr _ fun k _ => by rw [show ((k + 1 : Nat) : Int) = (k : Int) + 1 by omega]]
    show co l 0 * 0 * x ^ m + _ = _
    grind
/-- a step along a line: up to squares it is told by the derivatives -/
theorem pow_step (x u h : Int) : ∀ n : Nat, ∃ R, (x + u * h) ^ n = x ^ n + h * (u * (n * x ^ (n - 1))) + h * h * R
  | 0 => ⟨0, by rw [Int.pow_zero, Int.pow_zero]; show (1 : Int) = 1 + h * (u * (0 * _)) + h * h * 0; grind⟩
  | 1 => ⟨0, by
    rw [Int.pow_succ, Int.pow_zero, Int.pow_succ, Int.pow_zero]
    show 1 * (x + u * h) = 1 * x + h * (u * (1 * 1)) + h * h * 0
    grind⟩
  | n + 2 => by
    obtain ⟨R, e⟩ := pow_step x u h (n + 1)
    refine ⟨u * u * ((n + 1 : Nat) * x ^ n) + R * (x + u * h), ?_⟩
    rw [Int.pow_succ, e, show n + 1 - 1 = n by omega, show n + 2 - 1 = n + 1 by omega, Int.pow_succ x (n + 1), Int.pow_succ x n, show ((n + 2 : Nat) : Int) = ((n + 1 : Nat) : Int) + 1 by omega]
    generalize x ^ n = A
    generalize ((n + 1 : Nat) : Int) = N
    grind
theorem ev_step (x y u v h : Int) : ∀ l : List Int, ∃ R, ev l (x + u * h) (y + v * h) = ev l x y + h * (u * ev (dX l) x y + v * ev (dY l) x y) + h * h * R
  | [] => ⟨0, by
    show (0 : Int) = 0 + h * (u * ev (dX []) x y + v * ev (dY []) x y) + h * h * 0
    rw [show ev (dX []) x y = 0 from rfl, show ev (dY []) x y = 0 from rfl]
    grind⟩
  | a :: l => by
    obtain ⟨R, e⟩ := ev_step x y u v h l
    obtain ⟨S, e2⟩ := pow_step x u h l.length
    refine ⟨a * S + v * (u * ev (dX l) x y + v * ev (dY l) x y) + (y + v * h) * R, ?_⟩
    rw [ev_cons, ev_cons, ev_dX_cons, ev_dY_cons, e, e2]
    generalize ev (dX l) x y = EX
    generalize ev (dY l) x y = EY
    generalize ev l x y = E
    generalize x ^ (l.length - 1) = A
    generalize x ^ l.length = B
    generalize (l.length : Int) = n
    grind
theorem step_eq {p q : Int} (H : ∀ h : Int, ∃ R, h * p = h * q + h * h * R) : p = q := by
  obtain ⟨R, e⟩ := H (((p - q).natAbs + 1 : Nat) : Int)
  have hp : (((p - q).natAbs + 1 : Nat) : Int) ≠ 0 := by omega
  have e2 : p = q + (((p - q).natAbs + 1 : Nat) : Int) * R := by
    refine Int.eq_of_mul_eq_mul_left hp ?_
    rw [Int.mul_add, ← Int.mul_assoc]
    exact e
  have hd : (((p - q).natAbs + 1 : Nat) : Int) ∣ p - q := ⟨R, by omega⟩
  have hz := Nat.eq_zero_of_dvd_of_lt (Int.natAbs_dvd_natAbs.mpr hd) (by rw [Int.natAbs_natCast]; omega)
  omega
theorem map_len (c : Int) (l : List Int) : (l.map (c * ·)).length = l.length := List.length_map ..
theorem dX_ne {l : List Int} (h : 2 ≤ l.length) : dX l ≠ [] := fun z => by have := dX_len l; rw [z] at this; have : 0 = l.length - 1 := this; omega
theorem dY_ne {l : List Int} (h : 2 ≤ l.length) : dY l ≠ [] := fun z => by have := dY_len l; rw [z] at this; have : 0 = l.length - 1 := this; omega
theorem ne_of2 {l : List Int} (h : 1 ≤ l.length) : l ≠ [] := List.length_pos_iff.mp h
/-- the rule of the chain -/
theorem dX_changed {a b c e : Int} {l : List Int} (h : 2 ≤ l.length) : dX (changed [a, b] [c, e] l) = zs 1 ((changed [a, b] [c, e] (dX l)).map (a * ·)) ((changed [a, b] [c, e] (dY l)).map (c * ·)) := by
  have nl := ne_of2 (show 1 ≤ l.length by omega)
  have l0 := changed_len (X := [a, b]) (Y := [c, e]) rfl rfl nl
  have l1 := changed_len (X := [a, b]) (Y := [c, e]) rfl rfl (dX_ne h)
  have l2 := changed_len (X := [a, b]) (Y := [c, e]) rfl rfl (dY_ne h)
  rw [dX_len] at l1
  rw [dY_len] at l2
  refine ev_inj (by rw [dX_len, l0, zs_len (by rw [map_len, map_len, l1, l2]), map_len, l1]) fun x y => step_eq fun k => ?_
  obtain ⟨R, e1⟩ := ev_step x y 1 0 k (changed [a, b] [c, e] l)
  obtain ⟨S, e2⟩ := ev_step (a * x + b * y) (c * x + e * y) a c k l
  rw [ev_changed rfl rfl nl, ev_changed rfl rfl nl, ev2, ev2, ev2, ev2] at e1
  rw [show a * (x + 1 * k) + b * (y + 0 * k) = a * x + b * y + a * k by grind, show c * (x + 1 * k) + e * (y + 0 * k) = c * x + e * y + c * k by grind, e2] at e1
  refine ⟨S - R, ?_⟩
  rw [ev_zs 1 (by rw [map_len, map_len, l1, l2]), ev_map, ev_map, ev_changed rfl rfl (dX_ne h), ev_changed rfl rfl (dY_ne h), ev2, ev2]
  grind
theorem dY_changed {a b c e : Int} {l : List Int} (h : 2 ≤ l.length) : dY (changed [a, b] [c, e] l) = zs 1 ((changed [a, b] [c, e] (dX l)).map (b * ·)) ((changed [a, b] [c, e] (dY l)).map (e * ·)) := by
  have nl := ne_of2 (show 1 ≤ l.length by omega)
  have l0 := changed_len (X := [a, b]) (Y := [c, e]) rfl rfl nl
  have l1 := changed_len (X := [a, b]) (Y := [c, e]) rfl rfl (dX_ne h)
  have l2 := changed_len (X := [a, b]) (Y := [c, e]) rfl rfl (dY_ne h)
  rw [dX_len] at l1
  rw [dY_len] at l2
  refine ev_inj (by rw [dY_len, l0, zs_len (by rw [map_len, map_len, l1, l2]), map_len, l1]) fun x y => step_eq fun k => ?_
  obtain ⟨R, e1⟩ := ev_step x y 0 1 k (changed [a, b] [c, e] l)
  obtain ⟨S, e2⟩ := ev_step (a * x + b * y) (c * x + e * y) b e k l
  rw [ev_changed rfl rfl nl, ev_changed rfl rfl nl, ev2, ev2, ev2, ev2] at e1
  rw [show a * (x + 0 * k) + b * (y + 1 * k) = a * x + b * y + b * k by grind, show c * (x + 0 * k) + e * (y + 1 * k) = c * x + e * y + e * k by grind, e2] at e1
  refine ⟨S - R, ?_⟩
  rw [ev_zs 1 (by rw [map_len, map_len, l1, l2]), ev_map, ev_map, ev_changed rfl rfl (dX_ne h), ev_changed rfl rfl (dY_ne h), ev2, ev2]
  grind
/-! ### the laying -/
def L : Nat → List Int → List Int → List Int
  | 0, f, g => ml f g
  | t + 1, f, g => zs (-1) (L t (dX f) (dY g)) (L t (dY f) (dX g))
theorem L_len : ∀ (t : Nat) (f g : List Int), t + 1 ≤ f.length → t + 1 ≤ g.length → (L t f g).length = f.length + g.length - 1 - 2 * t
  | 0, f, g, _, _ => ml_len f g
  | t + 1, f, g, hf, hg => by
    have h1 := L_len t (dX f) (dY g) (by rw [dX_len]; omega) (by rw [dY_len]; omega)
    have h2 := L_len t (dY f) (dX g) (by rw [dY_len]; omega) (by rw [dX_len]; omega)
    rw [dX_len, dY_len] at h1
    rw [dX_len, dY_len] at h2
    show (zs (-1) (L t (dX f) (dY g)) (L t (dY f) (dX g))).length = _
    rw [zs_len (by rw [h1, h2]), h1]
    omega
theorem ev_L_succ {t : Nat} {f g : List Int} (hf : t + 2 ≤ f.length) (hg : t + 2 ≤ g.length) (x y : Int) : ev (L (t + 1) f g) x y = ev (L t (dX f) (dY g)) x y - ev (L t (dY f) (dX g)) x y := by
  have h1 := L_len t (dX f) (dY g) (by rw [dX_len]; omega) (by rw [dY_len]; omega)
  have h2 := L_len t (dY f) (dX g) (by rw [dY_len]; omega) (by rw [dX_len]; omega)
  rw [dX_len, dY_len] at h1
  rw [dX_len, dY_len] at h2
  show ev (zs (-1) (L t (dX f) (dY g)) (L t (dY f) (dX g))) x y = _
  rw [ev_zs (-1) (by rw [h1, h2])]
  omega
theorem dX_zs' (c : Int) {l m : List Int} (h : l.length = m.length) : dX (zs c l m) = zs c (dX l) (dX m) := by
  refine co_inj (by rw [dX_len, zs_len h, zs_len (by rw [dX_len, dX_len, h]), dX_len]) fun k => ?_
  rw [co_zs' c (by rw [dX_len, dX_len, h])]
  unfold dX
  rw [co_tb, co_tb, co_tb, zs_len h, ← h, co_zs' c h]
  by_cases d : k < l.length - 1
  · rw [if_pos d, if_pos d, if_pos d]
    grind
  · rw [if_neg d, if_neg d, if_neg d]
    grind
theorem dY_zs' (c : Int) {l m : List Int} (h : l.length = m.length) : dY (zs c l m) = zs c (dY l) (dY m) := by
  refine co_inj (by rw [dY_len, zs_len h, zs_len (by rw [dY_len, dY_len, h]), dY_len]) fun k => ?_
  rw [co_zs' c (by rw [dY_len, dY_len, h])]
  unfold dY
  rw [co_tb, co_tb, co_tb, zs_len h, ← h, co_zs' c h]
  by_cases d : k < l.length - 1
  · rw [if_pos d, if_pos d, if_pos d]
    grind
  · rw [if_neg d, if_neg d, if_neg d]
    grind
/-- a laying is a sum in both -/
theorem L_zsl (c : Int) (x y : Int) : ∀ (t : Nat) (f f' g : List Int), f.length = f'.length → t + 1 ≤ f.length → t + 1 ≤ g.length → ev (L t (zs c f f') g) x y = ev (L t f g) x y + c * ev (L t f' g) x y
  | 0, f, f', g, h, hf, hg => by
    have n1 : zs c f f' ≠ [] := ne_of2 (by rw [zs_len h]; omega)
    show ev (ml (zs c f f') g) x y = ev (ml f g) x y + c * ev (ml f' g) x y
    rw [ev_ml n1 (ne_of2 hg), ev_ml (ne_of2 hf) (ne_of2 hg), ev_ml (ne_of2 (by omega)) (ne_of2 hg), ev_zs c h]
    grind
  | t + 1, f, f', g, h, hf, hg => by
    rw [ev_L_succ (by rw [zs_len h]; omega) (by omega), ev_L_succ (by omega) (by omega), ev_L_succ (by omega) (by omega), dX_zs' c h, dY_zs' c h,
      L_zsl c x y t _ _ _ (by rw [dX_len, dX_len, h]) (by rw [dX_len]; omega) (by rw [dY_len]; omega), L_zsl c x y t _ _ _ (by rw [dY_len, dY_len, h]) (by rw [dY_len]; omega) (by rw [dX_len]; omega)]
    grind
theorem L_zsr (c : Int) (x y : Int) : ∀ (t : Nat) (f g g' : List Int), g.length = g'.length → t + 1 ≤ f.length → t + 1 ≤ g.length → ev (L t f (zs c g g')) x y = ev (L t f g) x y + c * ev (L t f g') x y
  | 0, f, g, g', h, hf, hg => by
    have n1 : zs c g g' ≠ [] := ne_of2 (by rw [zs_len h]; omega)
    show ev (ml f (zs c g g')) x y = ev (ml f g) x y + c * ev (ml f g') x y
    rw [ev_ml (ne_of2 hf) n1, ev_ml (ne_of2 hf) (ne_of2 hg), ev_ml (ne_of2 hf) (ne_of2 (by omega)), ev_zs c h]
    grind
  | t + 1, f, g, g', h, hf, hg => by
    rw [ev_L_succ (by omega) (by rw [zs_len h]; omega), ev_L_succ (by omega) (by omega), ev_L_succ (by omega) (by omega), dX_zs' c h, dY_zs' c h,
      L_zsr c x y t _ _ _ (by rw [dY_len, dY_len, h]) (by rw [dX_len]; omega) (by rw [dY_len]; omega), L_zsr c x y t _ _ _ (by rw [dX_len, dX_len, h]) (by rw [dY_len]; omega) (by rw [dX_len]; omega)]
    grind
theorem dX_map (c : Int) (l : List Int) : dX (l.map (c * ·)) = (dX l).map (c * ·) := by
  refine co_inj (by rw [dX_len, map_len, map_len, dX_len]) fun k => ?_
  rw [co_map]
  unfold dX
  rw [co_tb, co_tb, map_len, co_map]
  by_cases d : k < l.length - 1
  · rw [if_pos d, if_pos d]
    grind
  · rw [if_neg d, if_neg d]
    grind
theorem dY_map (c : Int) (l : List Int) : dY (l.map (c * ·)) = (dY l).map (c * ·) := by
  refine co_inj (by rw [dY_len, map_len, map_len, dY_len]) fun k => ?_
  rw [co_map]
  unfold dY
  rw [co_tb, co_tb, map_len, co_map]
  by_cases d : k < l.length - 1
  · rw [if_pos d, if_pos d]
    grind
  · rw [if_neg d, if_neg d]
    grind
theorem L_mapl (c : Int) (x y : Int) : ∀ (t : Nat) (f g : List Int), t + 1 ≤ f.length → t + 1 ≤ g.length → ev (L t (f.map (c * ·)) g) x y = c * ev (L t f g) x y
  | 0, f, g, hf, hg => by
    show ev (ml (f.map (c * ·)) g) x y = c * ev (ml f g) x y
    rw [ev_ml (ne_of2 (by rw [map_len]; omega)) (ne_of2 hg), ev_ml (ne_of2 hf) (ne_of2 hg), ev_map]
    grind
  | t + 1, f, g, hf, hg => by
    rw [ev_L_succ (by rw [map_len]; omega) (by omega), ev_L_succ (by omega) (by omega), dX_map, dY_map, L_mapl c x y t _ _ (by rw [dX_len]; omega) (by rw [dY_len]; omega), L_mapl c x y t _ _ (by rw [dY_len]; omega) (by rw [dX_len]; omega)]
    grind
theorem L_mapr (c : Int) (x y : Int) : ∀ (t : Nat) (f g : List Int), t + 1 ≤ f.length → t + 1 ≤ g.length → ev (L t f (g.map (c * ·))) x y = c * ev (L t f g) x y
  | 0, f, g, hf, hg => by
    show ev (ml f (g.map (c * ·))) x y = c * ev (ml f g) x y
    rw [ev_ml (ne_of2 hf) (ne_of2 (by rw [map_len]; omega)), ev_ml (ne_of2 hf) (ne_of2 hg), ev_map]
    grind
  | t + 1, f, g, hf, hg => by
    rw [ev_L_succ (by omega) (by rw [map_len]; omega), ev_L_succ (by omega) (by omega), dX_map, dY_map, L_mapr c x y t _ _ (by rw [dX_len]; omega) (by rw [dY_len]; omega), L_mapr c x y t _ _ (by rw [dY_len]; omega) (by rw [dX_len]; omega)]
    grind
/-- laid the other way round -/
theorem L_swap (x y : Int) : ∀ (t : Nat) (f g : List Int), t + 1 ≤ f.length → t + 1 ≤ g.length → ev (L t g f) x y = (-1) ^ t * ev (L t f g) x y
  | 0, f, g, hf, hg => by
    show ev (ml g f) x y = 1 * ev (ml f g) x y
    rw [ml_comm, Int.one_mul]
  | t + 1, f, g, hf, hg => by
    rw [ev_L_succ (by omega) (by omega), ev_L_succ (by omega) (by omega), L_swap x y t (dY f) (dX g) (by rw [dY_len]; omega) (by rw [dX_len]; omega), L_swap x y t (dX f) (dY g) (by rw [dX_len]; omega) (by rw [dY_len]; omega), Int.pow_succ]
    grind
/-- laid after a change -/
theorem L_changed {a b c e : Int} (x y : Int) : ∀ (t : Nat) (f g : List Int), t + 1 ≤ f.length → t + 1 ≤ g.length →
    ev (L t (changed [a, b] [c, e] f) (changed [a, b] [c, e] g)) x y = (a * e - b * c) ^ t * ev (L t f g) (a * x + b * y) (c * x + e * y)
  | 0, f, g, hf, hg => by
    have l1 := changed_len (X := [a, b]) (Y := [c, e]) rfl rfl (ne_of2 hf)
    have l2 := changed_len (X := [a, b]) (Y := [c, e]) rfl rfl (ne_of2 hg)
    rw [Int.pow_zero, Int.one_mul]
    show ev (ml (changed [a, b] [c, e] f) (changed [a, b] [c, e] g)) x y = ev (ml f g) _ _
    rw [ev_ml (ne_of2 (by omega)) (ne_of2 (by omega)), ev_ml (ne_of2 hf) (ne_of2 hg), ev_changed rfl rfl (ne_of2 hf), ev_changed rfl rfl (ne_of2 hg), ev2, ev2]
  | t + 1, f, g, hf, hg => by
    have l1 := changed_len (X := [a, b]) (Y := [c, e]) rfl rfl (ne_of2 (show 1 ≤ f.length by omega))
    have l2 := changed_len (X := [a, b]) (Y := [c, e]) rfl rfl (ne_of2 (show 1 ≤ g.length by omega))
    have lfx := changed_len (X := [a, b]) (Y := [c, e]) rfl rfl (dX_ne (l := f) (by omega))
    have lfy := changed_len (X := [a, b]) (Y := [c, e]) rfl rfl (dY_ne (l := f) (by omega))
    have lgx := changed_len (X := [a, b]) (Y := [c, e]) rfl rfl (dX_ne (l := g) (by omega))
    have lgy := changed_len (X := [a, b]) (Y := [c, e]) rfl rfl (dY_ne (l := g) (by omega))
    rw [dX_len] at lfx lgx
    rw [dY_len] at lfy lgy
    rw [ev_L_succ (by omega) (by omega), ev_L_succ (by omega) (by omega), dX_changed (l := f) (by omega), dY_changed (l := f) (by omega), dX_changed (l := g) (by omega), dY_changed (l := g) (by omega)]
    have two : ∀ (p q r s : Int), ev (L t (zs 1 ((changed [a, b] [c, e] (dX f)).map (p * ·)) ((changed [a, b] [c, e] (dY f)).map (q * ·))) (zs 1 ((changed [a, b] [c, e] (dX g)).map (r * ·)) ((changed [a, b] [c, e] (dY g)).map (s * ·)))) x y =
        p * r * ((a * e - b * c) ^ t * ev (L t (dX f) (dX g)) (a * x + b * y) (c * x + e * y)) + p * s * ((a * e - b * c) ^ t * ev (L t (dX f) (dY g)) (a * x + b * y) (c * x + e * y)) +
        q * r * ((a * e - b * c) ^ t * ev (L t (dY f) (dX g)) (a * x + b * y) (c * x + e * y)) + q * s * ((a * e - b * c) ^ t * ev (L t (dY f) (dY g)) (a * x + b * y) (c * x + e * y)) := fun p q r s => by
      have ih1 := L_changed (a := a) (b := b) (c := c) (e := e) x y t (dX f) (dX g) (by rw [dX_len]; omega) (by rw [dX_len]; omega)
      have ih2 := L_changed (a := a) (b := b) (c := c) (e := e) x y t (dX f) (dY g) (by rw [dX_len]; omega) (by rw [dY_len]; omega)
      have ih3 := L_changed (a := a) (b := b) (c := c) (e := e) x y t (dY f) (dX g) (by rw [dY_len]; omega) (by rw [dX_len]; omega)
      have ih4 := L_changed (a := a) (b := b) (c := c) (e := e) x y t (dY f) (dY g) (by rw [dY_len]; omega) (by rw [dY_len]; omega)
      rw [L_zsl 1 x y t _ _ _ (by rw [map_len, map_len, lfx, lfy]) (by rw [map_len, lfx]; omega) (by rw [zs_len (by rw [map_len, map_len, lgx, lgy]), map_len, lgx]; omega),
        L_zsr 1 x y t _ _ _ (by rw [map_len, map_len, lgx, lgy]) (by rw [map_len, lfx]; omega) (by rw [map_len, lgx]; omega),
        L_zsr 1 x y t _ _ _ (by rw [map_len, map_len, lgx, lgy]) (by rw [map_len, lfy]; omega) (by rw [map_len, lgx]; omega),
        L_mapl p x y t _ _ (by rw [lfx]; omega) (by rw [map_len, lgx]; omega), L_mapl p x y t _ _ (by rw [lfx]; omega) (by rw [map_len, lgy]; omega),
        L_mapl q x y t _ _ (by rw [lfy]; omega) (by rw [map_len, lgx]; omega), L_mapl q x y t _ _ (by rw [lfy]; omega) (by rw [map_len, lgy]; omega),
        L_mapr r x y t _ _ (by rw [lfx]; omega) (by rw [lgx]; omega), L_mapr s x y t _ _ (by rw [lfx]; omega) (by rw [lgy]; omega),
        L_mapr r x y t _ _ (by rw [lfy]; omega) (by rw [lgx]; omega), L_mapr s x y t _ _ (by rw [lfy]; omega) (by rw [lgy]; omega), ih1, ih2, ih3, ih4]
      grind
    rw [two, two, Int.pow_succ]
    grind
/-! ### sums -/
def su : Nat → (Nat → Int) → Int
  | 0, _ => 0
  | n + 1, φ => su n φ + φ n
theorem su_congr {φ ψ : Nat → Int} : ∀ n, (∀ k, k < n → φ k = ψ k) → su n φ = su n ψ
  | 0, _ => rfl
  | n + 1, h => by
    show su n φ + φ n = su n ψ + ψ n
    rw [su_congr n fun k hk => h k (by omega), h n (by omega)]
theorem su_add (φ ψ : Nat → Int) : ∀ n, su n (fun k => φ k + ψ k) = su n φ + su n ψ
  | 0 => rfl
  | n + 1 => by
    show su n (fun k => φ k + ψ k) + (φ n + ψ n) = su n φ + φ n + (su n ψ + ψ n)
    rw [su_add φ ψ n]
    omega
theorem su_shift (φ : Nat → Int) : ∀ n, su (n + 1) φ = φ 0 + su n (fun k => φ (k + 1))
  | 0 => by show 0 + φ 0 = φ 0 + 0; omega
  | n + 1 => by
    show su (n + 1) φ + φ (n + 1) = φ 0 + (su n (fun k => φ (k + 1)) + φ (n + 1))
    rw [su_shift φ n]
    omega
/-- how many lots -/
def ch : Nat → Nat → Nat
  | _, 0 => 1
  | 0, _ + 1 => 0
  | n + 1, k + 1 => ch n k + ch n (k + 1)
theorem ch_zero (n : Nat) : ch n 0 = 1 := by cases n <;> rfl
theorem ch_far : ∀ n k : Nat, n < k → ch n k = 0
  | n, 0, h => absurd h (Nat.not_lt_zero n)
  | 0, k + 1, _ => rfl
  | n + 1, k + 1, h => by
    show ch n k + ch n (k + 1) = 0
    rw [ch_far n k (by omega), ch_far n (k + 1) (by omega)]
theorem ch_mul : ∀ n k : Nat, (ch n (k + 1) : Int) * ((k : Int) + 1) = ch n k * ((n : Int) - k)
  | 0, k => by
    show ((0 : Nat) : Int) * _ = _
    cases k with
    | zero => show (0 : Int) * _ = 1 * ((0 : Int) - 0); grind
    | succ k => show (0 : Int) * _ = (0 : Int) * _; grind
  | n + 1, 0 => by
    have h := ch_mul n 0
    rw [ch_zero] at h
    show ((ch n 0 + ch n (0 + 1) : Nat) : Int) * _ = ((ch (n + 1) 0 : Nat) : Int) * _
    rw [ch_zero, ch_zero, Int.natCast_add]
    have e : ((0 : Nat) : Int) = 0 := rfl
    rw [e] at h ⊢
    rw [show ((n + 1 : Nat) : Int) = (n : Int) + 1 by omega]
    grind
  | n + 1, k + 1 => by
    have h1 := ch_mul n (k + 1)
    have h2 := ch_mul n k
    show ((ch n (k + 1) + ch n (k + 1 + 1) : Nat) : Int) * _ = ((ch n k + ch n (k + 1) : Nat) : Int) * _
    rw [Int.natCast_add (ch n (k + 1)), Int.natCast_add (ch n k)]
    rw [show ((k + 1 : Nat) : Int) = (k : Int) + 1 by omega] at h1 ⊢
    rw [show ((n + 1 : Nat) : Int) = (n : Int) + 1 by omega]
    grind
/-- the sign of a place -/
def sgn (k : Nat) : Int := if k % 2 = 0 then 1 else -1
theorem sgn_succ (k : Nat) : sgn (k + 1) = -sgn k := by
  unfold sgn
  by_cases h : k % 2 = 0
  · rw [if_pos h, if_neg (by omega)]
  · rw [if_neg h, if_pos (by omega)]
    rfl
theorem sgn_pow : ∀ k : Nat, (-1 : Int) ^ k = sgn k
  | 0 => rfl
  | k + 1 => by
    rw [Int.pow_succ, sgn_pow k, sgn_succ]
    omega
theorem dXY (l : List Int) : dX (dY l) = dY (dX l) := by
  refine co_inj (by rw [dX_len, dY_len, dY_len, dX_len]) fun k => ?_
  have a1 : ∀ m : List Int, ∀ k, co (dX m) k = if k < m.length - 1 then co m k * ((m.length : Int) - 1 - k) else 0 := fun m k => co_tb k
  have a2 : ∀ m : List Int, ∀ k, co (dY m) k = if k < m.length - 1 then co m (k + 1) * ((k : Int) + 1) else 0 := fun m k => co_tb k
  rw [a1 (dY l), a2 (dX l), dX_len, dY_len, a1 l, a2 l]
  by_cases h : k < l.length - 1 - 1
  · rw [if_pos h, if_pos h, if_pos (by omega), if_pos (by omega)]
    rw [show ((k + 1 : Nat) : Int) = (k : Int) + 1 by omega, show ((l.length - 1 : Nat) : Int) = (l.length : Int) - 1 by omega]
    grind
  · rw [if_neg h, if_neg h]
theorem it_succ (f : List Int → List Int) (n : Nat) (l : List Int) : it f n (f l) = it f (n + 1) l := by
  induction n with
  | zero => rfl
  | succ n ih => show f (it f n (f l)) = f (it f (n + 1) l); rw [ih]
theorem dX_it_dY (l : List Int) : ∀ n, it dX n (dY l) = dY (it dX n l)
  | 0 => rfl
  | n + 1 => by
    show dX (it dX n (dY l)) = dY (dX (it dX n l))
    rw [dX_it_dY l n, dXY]
theorem dd_dX (i j : Nat) (l : List Int) : dd i j (dX l) = dd (i + 1) j l := by
  unfold dd
  rw [it_succ]
theorem dd_dY (i j : Nat) (l : List Int) : dd i j (dY l) = dd i (j + 1) l := by
  unfold dd
  rw [dX_it_dY, it_succ]
/-- a laying, as a sum -/
theorem L_sum (x y : Int) : ∀ (t : Nat) (f g : List Int), t + 1 ≤ f.length → t + 1 ≤ g.length →
    ev (L t f g) x y = su (t + 1) fun k => sgn k * ch t k * (ev (dd (t - k) k f) x y * ev (dd k (t - k) g) x y)
  | 0, f, g, hf, hg => by
    show ev (ml f g) x y = 0 + 1 * 1 * (ev f x y * ev g x y)
    rw [ev_ml (ne_of2 hf) (ne_of2 hg)]
    grind
  | t + 1, f, g, hf, hg => by
    rw [ev_L_succ (by omega) (by omega), L_sum x y t _ _ (by rw [dX_len]; omega) (by rw [dY_len]; omega), L_sum x y t _ _ (by rw [dY_len]; omega) (by rw [dX_len]; omega)]
    have T : ∃ T : Nat → Int, ∀ k, k ≤ t + 1 → T k = ev (dd (t + 1 - k) k f) x y * ev (dd k (t + 1 - k) g) x y := ⟨_, fun _ _ => rfl⟩
    obtain ⟨T, hT⟩ := T
    have e1 : su (t + 1) (fun k => sgn k * ch t k * (ev (dd (t - k) k (dX f)) x y * ev (dd k (t - k) (dY g)) x y)) = su (t + 1) fun k => sgn k * ch t k * T k := su_congr _ fun k hk => by
      rw [dd_dX, dd_dY, hT k (by omega), show t - k + 1 = t + 1 - k by omega]
    have e2 : su (t + 1) (fun k => sgn k * ch t k * (ev (dd (t - k) k (dY f)) x y * ev (dd k (t - k) (dX g)) x y)) = su (t + 1) fun k => sgn k * ch t k * T (k + 1) := su_congr _ fun k hk => by
      rw [dd_dX, dd_dY, hT (k + 1) (by omega), show t + 1 - (k + 1) = t - k by omega]
    have e3 : su (t + 1 + 1) (fun k => sgn k * ch (t + 1) k * (ev (dd (t + 1 - k) k f) x y * ev (dd k (t + 1 - k) g) x y)) = su (t + 1 + 1) fun k => sgn k * ch (t + 1) k * T k := su_congr _ fun k hk => by
      rw [hT k (by omega)]
    rw [e1, e2, e3, su_shift _ (t + 1)]
    have e4 : su (t + 1) (fun k => sgn (k + 1) * ch (t + 1) (k + 1) * T (k + 1)) = su (t + 1) (fun k => sgn (k + 1) * ch t (k + 1) * T (k + 1)) + su (t + 1) (fun k => -1 * (sgn k * ch t k * T (k + 1))) := by
      rw [← su_add]
      refine su_congr _ fun k hk => ?_
      show sgn (k + 1) * ((ch t k + ch t (k + 1) : Nat) : Int) * T (k + 1) = _
      rw [Int.natCast_add, sgn_succ]
      grind
    have e5 := su_shift (fun k => sgn k * ch t k * T k) (t + 1)
    have e6 : su (t + 1 + 1) (fun k => sgn k * ch t k * T k) = su (t + 1) (fun k => sgn k * ch t k * T k) + sgn (t + 1) * ch t (t + 1) * T (t + 1) := rfl
    have e7 : su (t + 1) (fun k => -1 * (sgn k * ch t k * T (k + 1))) = - su (t + 1) (fun k => sgn k * ch t k * T (k + 1)) := by
      have : ∀ n φ, su n (fun k => -1 * φ k) = - su n φ := by
        intro n φ
        induction n with
        | zero => rfl
        | succ n ih => show su n (fun k => -1 * φ k) + -1 * φ n = -(su n φ + φ n); rw [ih]; omega
      exact this _ _
    rw [e4, e7]
    rw [e6, ch_far t (t + 1) (by omega)] at e5
    rw [ch_zero] at e5 ⊢
    have z0 : sgn (t + 1) * ((0 : Nat) : Int) * T (t + 1) = 0 := by
      rw [show ((0 : Nat) : Int) = 0 from rfl, Int.mul_zero, Int.zero_mul]
    omega
end K10

set_option Elab.async false
set_option linter.all false
set_option maxRecDepth 100000
/-! layings: three forms, powers -/
namespace K10
theorem ev_euler {l : List Int} (h : 1 ≤ l.length) (x y : Int) : ((l.length : Int) - 1) * ev l x y = x * ev (dX l) x y + y * ev (dY l) x y := by
  by_cases c : 2 ≤ l.length
  · have e := congrArg (fun m => ev m x y) (euler c)
    have l1 : (ml [1, 0] (dX l)).length = l.length := by rw [ml_len, dX_len]; show 2 + (l.length - 1) - 1 = _; omega
    have l2 : (ml [0, 1] (dY l)).length = l.length := by rw [ml_len, dY_len]; show 2 + (l.length - 1) - 1 = _; omega
    have e' : ev (zs 1 (ml [1, 0] (dX l)) (ml [0, 1] (dY l))) x y = ev (l.map fun x => x * ((l.length : Int) - 1)) x y := e
    rw [map_mul_comm, ev_map, ev_zs 1 (by rw [l1, l2]), ev_ml (by simp) (dX_ne c), ev_ml (by simp) (dY_ne c), ev2, ev2] at e'
    grind
  · have h1 : l.length = 1 := by omega
    have e1 : dX l = [] := List.length_eq_zero_iff.mp (by rw [dX_len]; omega)
    have e2 : dY l = [] := List.length_eq_zero_iff.mp (by rw [dY_len]; omega)
    rw [e1, e2, h1]
    show ((1 : Int) - 1) * _ = x * 0 + y * 0
    grind
theorem L_one {f g : List Int} (hf : 2 ≤ f.length) (hg : 2 ≤ g.length) (x y : Int) : ev (L 1 f g) x y = ev (dX f) x y * ev (dY g) x y - ev (dY f) x y * ev (dX g) x y := by
  rw [ev_L_succ (by omega) (by omega)]
  show ev (ml (dX f) (dY g)) x y - ev (ml (dY f) (dX g)) x y = _
  rw [ev_ml (dX_ne hf) (dY_ne hg), ev_ml (dY_ne hf) (dX_ne hg)]
/-- the rule of three forms -/
theorem three {f g h : List Int} (hf : 2 ≤ f.length) (hg : 2 ≤ g.length) (hh : 2 ≤ h.length) (x y : Int) :
    ev f x y * ev (L 1 g h) x y * ((f.length : Int) - 1) + ev g x y * ev (L 1 h f) x y * ((g.length : Int) - 1) + ev h x y * ev (L 1 f g) x y * ((h.length : Int) - 1) = 0 := by
  have e1 := ev_euler (l := f) (by omega) x y
  have e2 := ev_euler (l := g) (by omega) x y
  have e3 := ev_euler (l := h) (by omega) x y
  rw [L_one hg hh, L_one hh hf, L_one hf hg]
  generalize ev f x y = F at *
  generalize ev g x y = G at *
  generalize ev h x y = H at *
  generalize ev (dX f) x y = FX at *
  generalize ev (dX g) x y = GX at *
  generalize ev (dX h) x y = HX at *
  generalize ev (dY f) x y = FY at *
  generalize ev (dY g) x y = GY at *
  generalize ev (dY h) x y = HY at *
  generalize (f.length : Int) - 1 = n at *
  generalize (g.length : Int) - 1 = m at *
  generalize (h.length : Int) - 1 = k at *
  have k1 : F * (GX * HY - GY * HX) * n = (x * FX + y * FY) * (GX * HY - GY * HX) := by rw [← e1]; grind
  have k2 : G * (HX * FY - HY * FX) * m = (x * GX + y * GY) * (HX * FY - HY * FX) := by rw [← e2]; grind
  have k3 : H * (FX * GY - FY * GX) * k = (x * HX + y * HY) * (FX * GY - FY * GX) := by rw [← e3]; grind
  rw [k1, k2, k3]
  grind
theorem dX_pow (p q : Int) (m : Nat) : dX (pow [p, q] (m + 1)) = (pow [p, q] m).map ((((m : Int) + 1) * p) * ·) := by
  have n2 : ([p, q] : List Int) ≠ [] := by simp
  refine ev_inj (by rw [dX_len, map_len, pow_len rfl, pow_len rfl]; omega) fun x y => step_eq fun k => ?_
  obtain ⟨R, e1⟩ := ev_step x y 1 0 k (pow [p, q] (m + 1))
  obtain ⟨S, e2⟩ := pow_step (p * x + q * y) p k (m + 1)
  rw [ev_pow n2, ev_pow n2, ev2, ev2, show p * (x + 1 * k) + q * (y + 0 * k) = p * x + q * y + p * k by grind, e2] at e1
  refine ⟨S - R, ?_⟩
  rw [ev_map, ev_pow n2, ev2]
  rw [show m + 1 - 1 = m by omega, show ((m + 1 : Nat) : Int) = (m : Int) + 1 by omega] at e1
  generalize (p * x + q * y) ^ m = A at *
  generalize (p * x + q * y) ^ (m + 1) = B at *
  grind
theorem dY_pow (p q : Int) (m : Nat) : dY (pow [p, q] (m + 1)) = (pow [p, q] m).map ((((m : Int) + 1) * q) * ·) := by
  have n2 : ([p, q] : List Int) ≠ [] := by simp
  refine ev_inj (by rw [dY_len, map_len, pow_len rfl, pow_len rfl]; omega) fun x y => step_eq fun k => ?_
  obtain ⟨R, e1⟩ := ev_step x y 0 1 k (pow [p, q] (m + 1))
  obtain ⟨S, e2⟩ := pow_step (p * x + q * y) q k (m + 1)
  rw [ev_pow n2, ev_pow n2, ev2, ev2, show p * (x + 0 * k) + q * (y + 1 * k) = p * x + q * y + q * k by grind, e2] at e1
  refine ⟨S - R, ?_⟩
  rw [ev_map, ev_pow n2, ev2]
  rw [show m + 1 - 1 = m by omega, show ((m + 1 : Nat) : Int) = (m : Int) + 1 by omega] at e1
  generalize (p * x + q * y) ^ m = A at *
  generalize (p * x + q * y) ^ (m + 1) = B at *
  grind
def fact : Nat → Int
  | 0 => 1
  | n + 1 => fact n * (n + 1)
/-- a form laid over a power is its value -/
theorem L_pow (p q x y : Int) : ∀ (n : Nat) (f : List Int), f.length = n + 1 → ev (L n f (pow [p, q] n)) x y = fact n * fact n * ev f q (-p)
  | 0, f, h => by
    show ev (ml f [1]) x y = 1 * 1 * ev f q (-p)
    rw [ml_one]
    match f, h with
    | [a], _ =>
      rw [ev_cons, ev_cons]
      show a * x ^ 0 + y * 0 = 1 * 1 * (a * q ^ 0 + -p * 0)
      rw [Int.pow_zero, Int.pow_zero]
      grind
  | n + 1, f, h => by
    have lp : (pow [p, q] (n + 1)).length = n + 2 := pow_len rfl _
    have lp' : (pow [p, q] n).length = n + 1 := pow_len rfl _
    rw [ev_L_succ (by omega) (by omega), dX_pow, dY_pow, L_mapr _ x y n _ _ (by rw [dX_len]; omega) (by omega), L_mapr _ x y n _ _ (by rw [dY_len]; omega) (by omega),
      L_pow p q x y n (dX f) (by rw [dX_len]; omega), L_pow p q x y n (dY f) (by rw [dY_len]; omega)]
    have e := ev_euler (l := f) (by omega) q (-p)
    rw [h, show ((n + 1 + 1 : Nat) : Int) - 1 = (n : Int) + 1 by omega] at e
    show _ = (fact n * ((n : Int) + 1)) * (fact n * ((n : Int) + 1)) * ev f q (-p)
    generalize ev f q (-p) = F at *
    generalize ev (dX f) q (-p) = FX at *
    generalize ev (dY f) q (-p) = FY at *
    generalize fact n = A
    generalize (n : Int) + 1 = N at *
    have : A * N * (A * N) * F = A * A * N * (N * F) := by grind
    rw [this, e]
    grind
end K10

set_option Elab.async false
set_option linter.all false
set_option maxRecDepth 100000
set_option maxHeartbeats 4000000
namespace K10
open PySem PySem.Spec PyProof.Rows L2 StX RZ MyR SlX OwnR OwnF EnumT
/-- a loop over enumerate of a list -/
theorem for_enum {K : PySem.W.Frag} {a : Addr} {xs : List V} {g : TG} {tb : TS} {D : Ends} {σ : L2.St} {H : Hp} (Pv : Nat → L2.St → Hp → Prop) (h0 : Pv 0 σ H) (hq : ∀ i σ H, Pv i σ H → SqL K H a xs)
    (hs : ∀ (i : Nat) (x : V) (T : Addr) (σ : L2.St) (H : Hp), xs[i]? = some x → Pv i σ H → H T = none → g (.ref T) σ (upd H T (.tup [.int (i : Nat), x])) fun σ2 H2 => tb { D with nx := Pv (i + 1), ct := Pv (i + 1), bk := D.nx } σ2 H2) (hd : ∀ σ H, Pv xs.length σ H → D.nx σ H) :
    ∃ W : Nat → Nat → L2.St → Hp → Prop, (∃ m, W 0 m σ H) ∧ ∀ i m σ H, W i m σ H →
      ((Ite K a).stop i H ∧ D.nx σ H) ∨ ((Ite K a).go i H ∧ ∃ N : L2.St → Hp → Prop, (∀ σ' H', N σ' H' → ∃ m', m' < m ∧ W (i + 1) m' σ' H') ∧ ∀ v H', (Ite K a).yld i H v H' → g v σ H' fun σ2 H2 => tb { D with nx := N, ct := N, bk := D.nx } σ2 H2) := by
  refine ⟨fun i m σ H => m = xs.length - i ∧ i ≤ xs.length ∧ Pv i σ H, ⟨xs.length, rfl, Nat.zero_le _, h0⟩, ?_⟩
  rintro i m σ H ⟨rfl, hi, p⟩
  have qx := hq i σ H p
  by_cases hlt : i < xs.length
  · have hx : xs[i]? = some xs[i] := List.getElem?_eq_getElem hlt
    refine .inr ⟨⟨xs, _, qx, hx⟩, Pv (i + 1), fun σ' H' p' => ⟨xs.length - (i + 1), by omega, rfl, hlt, p'⟩, fun v H' y => ?_⟩
    obtain ⟨T, x', rfl, hT, rfl, f1⟩ := y
    exact hs i x' T σ H (f1 xs qx) p hT
  · have e : i = xs.length := by omega
    subst e
    exact .inl ⟨⟨xs, qx, Nat.le_refl _⟩, hd σ H p⟩
/-- a comprehension over enumerate of a list -/
theorem lc_enum {K : PySem.W.Frag} {a : Addr} {xs : List V} {g : TG} {tt : TT} {te : TE} {vs : List Nat} {σ : L2.St} {H1 : Hp} {D : Addr} {Qd : Hp → Prop} (Pv : Nat → Hp → Prop) (h0 : Pv 0 (upd H1 D (.lst []))) (hq : ∀ i H, i ≤ xs.length → Pv i H → SqL K H a xs)
    (hs : ∀ (i : Nat) (x : V) (T : Addr) (H : Hp), xs[i]? = some x → Pv i H → H T = none → g (.ref T) (wipe σ vs) (upd H T (.tup [.int (i : Nat), x])) fun σ2 H2 => wipe σ2 vs = wipe σ vs ∧ tt σ2 H2 fun b H3 =>
      if b = true then te σ2 H3 fun y H4 => ∃ acc, H4 D = some (.lst acc) ∧ acc.length < sizeLine ∧ Pv (i + 1) (upd H4 D (.lst (acc ++ [y]))) else Pv (i + 1) H3) (hd : ∀ H, Pv xs.length H → Qd H) :
    ∃ W : Nat → Nat → Hp → Prop, (∃ m, W 0 m (upd H1 D (.lst []))) ∧ ∀ i m H, W i m H →
      ((Ite K a).stop i H ∧ Qd H) ∨ ((Ite K a).go i H ∧ ∃ Nx : Hp → Prop, (∀ H', Nx H' → ∃ m', m' < m ∧ W (i + 1) m' H') ∧ ∀ x H', (Ite K a).yld i H x H' → g x (wipe σ vs) H' fun σ2 H2 => wipe σ2 vs = wipe σ vs ∧ tt σ2 H2 fun b H3 =>
        if b = true then te σ2 H3 fun y H4 => ∃ acc, H4 D = some (.lst acc) ∧ acc.length < sizeLine ∧ Nx (upd H4 D (.lst (acc ++ [y]))) else Nx H3) := by
  refine ⟨fun i m H => m = xs.length - i ∧ i ≤ xs.length ∧ Pv i H, ⟨xs.length, by simp, Nat.zero_le _, h0⟩, ?_⟩
  rintro i m H ⟨rfl, hi, p⟩
  have qx := hq i H hi p
  by_cases hlt : i < xs.length
  · have hx : xs[i]? = some xs[i] := List.getElem?_eq_getElem hlt
    refine .inr ⟨⟨xs, _, qx, hx⟩, Pv (i + 1), fun H' p' => ⟨xs.length - (i + 1), by omega, rfl, hlt, p'⟩, fun v H' y => ?_⟩
    obtain ⟨T, x', rfl, hT, rfl, f1⟩ := y
    exact hs i x' T H (f1 xs qx) p hT
  · have e : i = xs.length := by omega
    subst e
    exact .inl ⟨⟨xs, qx, Nat.le_refl _⟩, hd H p⟩
/-- a list of ints -/
abbrev lp (ns : List Int) : HO := .lst (ns.map V.int)
theorem lcut_init {l : List Int} (h : 1 ≤ l.length) : HO.lst (cutV (l.map V.int) none (some (-1))) = lp (l.take (l.length - 1)) := by
  rw [cut_init _ (by rw [List.length_map]; exact h), ← List.map_take, List.length_map]
theorem lcut_tail {l : List Int} (h : 1 ≤ l.length) : HO.lst (cutV (l.map V.int) (some 1) none) = lp (l.drop 1) := by
  rw [cut_tail _ (by rw [List.length_map]; exact h), ← List.map_drop]
theorem ch_le : ∀ n k : Nat, ch n k ≤ 2 ^ n
  | n, 0 => by rw [ch_zero]; exact Nat.one_le_two_pow
  | 0, k + 1 => Nat.zero_le _
  | n + 1, k + 1 => by
    show ch n k + ch n (k + 1) ≤ _
    have h1 := ch_le n k
    have h2 := ch_le n (k + 1)
    rw [Nat.pow_succ]
    omega
section
variable {P : Program} {w : World} {K : PySem.W.Frag} {mg : Str → Option Value} {base : Heap}
def spLots : Sp := fun vs H Q _ => ∃ n k : Nat, vs = [.int n, .int k] ∧ k ≤ n ∧ n ≤ 50 ∧ Q (.int (ch n k)) H
theorem sm_ch {n k : Nat} (h : n ≤ 50) : sm ((ch n k : Nat) : Int) := by
  show ((ch n k : Nat) : Int).natAbs < _
  rw [Int.natAbs_natCast]
  exact Nat.lt_of_le_of_lt (ch_le n k) (Nat.pow_lt_pow_right (by decide) (by omega))
theorem ok_lots_of (T : Facts K mg) : FnOk P w K mg base CX0 1 T.f_lots_of T.fd_lots_of ["many", "few"] spLots := by
  refine T.F_lots_of.ok sc_lots_of (fun vs H Q E h => ?_) (fun cdv A outer s H vs Q E hr h => ?_)
  · obtain ⟨n, k, rfl, _⟩ := h
    rfl
  · obtain ⟨n, k, rfl, hk, hn, q⟩ := h
    refine ⟨_, (PSs.nox (pss_cons (ps_set (i := 2) sc_lots_of.nd rfl (.inl rfl) pe_int)
    (pss_cons (ps_for PassesOwn.never (by rfl) (pi_range1 (by rfl) T.z_range (pa_cons (pv 1) pa_nil)) (pg_name (i := 3) sc_lots_of.nd rfl (.inl rfl))
      (pss_one (ps_set (i := 2) sc_lots_of.nd rfl (.inl rfl) (pe_op op_fdivZ (pe_op op_mulW (pv 2) (pe_op op_sub (pv 0) (pv 3))) (pe_op op_add (pv 3) pe_int)))))
    (pss_one (ps_ret (pv 2)))))), ?_⟩
    refine ⟨_, rfl, k, rfl, by omega, by omega, for_range (n := (k : Int).toNat) (fun i σ H' => ∃ y3, σ = [some (.int n), some (.int k), some (.int (ch n i)), y3] ∧ H' = H) ⟨none, by rw [ch_zero]; rfl, rfl⟩ (fun i σ H' hi hP => ?_) (fun σ H' hP => ?_)⟩
    · obtain ⟨y3, rfl, rfl⟩ := hP
      have e := ch_mul n i
      have hi1 : (0 : Int) + (i : Int) + 1 ≠ 0 := by omega
      refine ⟨_, rfl, _, rfl, _, rfl, _, _, rfl, rfl, _, _, rfl, rfl, sm_mul (sm_ch hn) (Nat.lt_of_le_of_lt (show ((n : Int) - (0 + (i : Int))).natAbs ≤ 50 by omega) (Nat.lt_of_lt_of_le (show 50 < 2 ^ 7 by decide) (Nat.pow_le_pow_right (by decide) (by decide)))), _, rfl, _, _, rfl, rfl, _, _, rfl, rfl, ⟨hi1, Nat.lt_trans (PySem.Flt.log2_lt_of (k := 10) (by decide) (by show ((0 : Int) + (i : Int) + 1).natAbs < 2 ^ 10; omega)) (by decide)⟩, some (.int (0 + (i : Int))), ?_, rfl⟩
      have e2 : (((ch n i : Nat) : Int) * ((n : Int) - (0 + (i : Int)))).fdiv (0 + (i : Int) + 1) = ((ch n (i + 1) : Nat) : Int) := by
        rw [Int.zero_add, ← e, Int.mul_fdiv_cancel _ (by omega)]
      show [some (V.int n), some (V.int k), some (V.int ((((ch n i : Nat) : Int) * ((n : Int) - (0 + (i : Int)))).fdiv (0 + (i : Int) + 1))), _] = _
      rw [e2]
    · obtain ⟨y3, rfl, rfl⟩ := hP
      rw [Int.toNat_natCast]
      exact ⟨_, rfl, q⟩
def spSlope : Sp := fun vs H Q _ => ∃ (a : Addr) (m : List Int) (b : Bool), vs = [.ref a, .bl b] ∧ H a = some (lp m) ∧ 1 ≤ m.length ∧ m.length ≤ 100 ∧ (∀ z ∈ m, sm z) ∧ ∀ p H', Same H H' → H p = none → H' p = some (lp (if b = true then dY m else dX m)) → Q (.ref p) H'
theorem ok_laying_slope (T : Facts K mg) : FnOk P w K mg base CX0 1 T.f_laying_slope T.fd_laying_slope ["entries", "by_y"] spSlope := by
  refine T.F_laying_slope.ok sc_laying_slope (fun vs H Q E h => ?_) (fun cdv A outer s H vs Q E hr h => ?_)
  · obtain ⟨a, m, b, rfl, _⟩ := h
    rfl
  · obtain ⟨a, m, b, rfl, ha, h1, h2, sm1, q⟩ := h
    refine ⟨_, (PSs.nox (pss_cons (ps_if (pt_val (pv 1))
      (pss_one (ps_ret (pe_lc (own := [("at", 2), ("entry", 3)]) (g := (gTup K 2 (gCons (gName 2) (gCons (gName 3) gNil)))) (tt := tYes) (by rfl) sc_laying_slope.nd (pi_enum (by rfl) T.z_enumerate (pa_cons (pe_slice sl_list (pv 0) (po_some pe_int) po_none) pa_nil)) (blkOk_by (N := N_laying_slope) (sc := defScope s_laying_slope) (by decide +kernel)) (fun _ _ _ _ _ => (pg_tup (by rfl) (pgs_cons (pg_name (i := 2) sc_laying_slope.nd rfl (.inl rfl)) (pgs_cons (pg_name (i := 3) sc_laying_slope.nd rfl (.inl rfl)) pgs_nil)))) (fun _ _ _ _ _ => pts_nil) (fun _ _ _ _ _ => (pe_op op_mulW (pv 3) (pe_op op_add (pv 2) pe_int))))))
      pss_nil)
    (pss_one (ps_ret (pe_lc (own := [("at", 2), ("entry", 3)]) (g := (gTup K 2 (gCons (gName 2) (gCons (gName 3) gNil)))) (tt := tYes) (by rfl) sc_laying_slope.nd (pi_enum (by rfl) T.z_enumerate (pa_cons (pe_slice sl_list (pv 0) po_none (po_some (pe_un un_neg pe_int))) pa_nil)) (blkOk_by (N := N_laying_slope) (sc := defScope s_laying_slope) (by decide +kernel)) (fun _ _ _ _ _ => (pg_tup (by rfl) (pgs_cons (pg_name (i := 2) sc_laying_slope.nd rfl (.inl rfl)) (pgs_cons (pg_name (i := 3) sc_laying_slope.nd rfl (.inl rfl)) pgs_nil)))) (fun _ _ _ _ _ => pts_nil) (fun _ _ _ _ _ => (pe_op op_mulW (pv 3) (pe_op op_sub (pe_op op_sub (pe_callB (call_len_seq : CallR _ _ (Evl.rLenS K)) (by rfl) T.z_len (by decide +kernel) (pa_cons (pv 0) pa_nil)) pe_int) (pv 2))))))))), ?_⟩
    cases b with
    | true =>
      refine ⟨_, rfl, true, rfl, iteT ⟨_, rfl, 1, rfl, a, _, rfl, SqL.of ha, fun p np => ?_⟩⟩
      rw [lcut_tail (by omega)]
      refine gen_upd H p _ np fun H2 s2 f2 => ⟨p, _, rfl, SqL.of f2, fun D hD => lc_enum (xs := (m.drop 1).map V.int) (fun k H' => Same H2 H' ∧ H' D = some (.lst (tab k fun k => co m (k + 1) * ((k : Int) + 1)))) ⟨same_upd0 hD, upd_same⟩ (fun k H' _ hP => SqL.of (hP.1 _ _ f2)) (fun k x B H' hx hP hB => ?_) (fun H3 hP => ?_)⟩
      · obtain ⟨sH, hL⟩ := hP
        obtain ⟨hk, rfl⟩ := int_get hx
        rw [List.length_drop] at hk
        rw [co_drop1]
        refine gen_upd H' B _ hB fun H4 s4 f4 => ⟨B, _, rfl, SqT.of f4, rfl, _, _, rfl, _, _, rfl, rfl, rfl, ?_⟩
        refine ⟨_, rfl, _, rfl, _, _, rfl, rfl, _, _, rfl, rfl, sm_mul (sm_co sm1 (by omega)) (Nat.lt_of_le_of_lt (show ((k : Int) + 1).natAbs ≤ 100 by omega) (Nat.lt_of_lt_of_le (show 100 < 2 ^ 7 by decide) (Nat.pow_le_pow_right (by decide) (by decide)))), _, s4 _ _ hL, ?_, fun b o e => ?_, ?_⟩
        · rw [tab_len]
          exact small1000 (by omega)
        · rw [upd_ne (ne_of_none e hD)]
          exact s4 _ _ (sH _ _ e)
        · rw [upd_same, ← tab_snoc]
      · obtain ⟨sH, hL⟩ := hP
        rw [List.length_map, List.length_drop, tab_tb] at hL
        exact q D H3 (s2.trans sH) (Same.free s2 hD) hL
    | false =>
      refine ⟨_, rfl, false, rfl, iteF ⟨_, rfl, _, rfl, _, rfl, a, _, rfl, SqL.of ha, fun p np => ?_⟩⟩
      rw [lcut_init (by omega)]
      refine gen_upd H p _ np fun H2 s2 f2 => ⟨p, _, rfl, SqL.of f2, fun D hD => lc_enum (xs := (m.take (m.length - 1)).map V.int) (fun k H' => Same H2 H' ∧ H' D = some (.lst (tab k fun k => co m k * ((m.length : Int) - 1 - k)))) ⟨same_upd0 hD, upd_same⟩ (fun k H' _ hP => SqL.of (hP.1 _ _ f2)) (fun k x B H' hx hP hB => ?_) (fun H3 hP => ?_)⟩
      · obtain ⟨sH, hL⟩ := hP
        obtain ⟨hk, rfl⟩ := int_get hx
        rw [List.length_take] at hk
        rw [co_take (by omega)]
        refine gen_upd H' B _ hB fun H4 s4 f4 => ⟨B, _, rfl, SqT.of f4, rfl, _, _, rfl, _, _, rfl, rfl, rfl, ?_⟩
        have hfB := (s2.trans (sH.trans s4)) _ _ ha
        refine ⟨_, rfl, _, rfl, a, _, rfl, .inl (SqL.of hfB), ?_⟩
        rw [List.length_map]
        refine ⟨_, _, rfl, rfl, _, rfl, _, _, rfl, rfl, _, _, rfl, rfl, sm_mul (sm_co sm1 (by omega)) (Nat.lt_of_le_of_lt (show ((m.length : Int) - 1 - (k : Int)).natAbs ≤ 100 by omega) (Nat.lt_of_lt_of_le (show 100 < 2 ^ 7 by decide) (Nat.pow_le_pow_right (by decide) (by decide)))), _, s4 _ _ hL, ?_, fun b o e => ?_, ?_⟩
        · rw [tab_len]
          exact small1000 (by omega)
        · rw [upd_ne (ne_of_none e hD)]
          exact s4 _ _ (sH _ _ e)
        · rw [upd_same, ← tab_snoc]
      · obtain ⟨sH, hL⟩ := hP
        rw [List.length_map, List.length_take, Nat.min_eq_left (by omega), tab_tb] at hL
        exact q D H3 (s2.trans sH) (Same.free s2 hD) hL
end
end K10

set_option Elab.async false
set_option linter.all false
set_option maxRecDepth 100000
set_option maxHeartbeats 4000000
namespace K10
open PySem PySem.Spec PyProof.Rows L2 StX RZ MyR SlX OwnR OwnF EnumT
theorem dX_itY (l : List Int) : ∀ j, dX (it dY j l) = it dY j (dX l)
  | 0 => rfl
  | j + 1 => by
    show dX (dY (it dY j l)) = dY (it dY j (dX l))
    rw [dXY, dX_itY l j]
theorem dX_dd (i j : Nat) (l : List Int) : dX (dd i j l) = dd (i + 1) j l := by
  unfold dd
  rw [dX_itY]
  rfl
theorem dY_dd (i j : Nat) (l : List Int) : dY (dd i j l) = dd i (j + 1) l := rfl
/-- lists of ints: where they stand, what they hold -/
structure Ll (H : Hp) (rs : List Addr) (n : Nat) (φ : Nat → List Int) : Prop where
  len : rs.length = n
  row : ∀ k (h : k < rs.length), H rs[k] = some (lp (φ k))
theorem Ll.same {H H' : Hp} {rs : List Addr} {n : Nat} {φ : Nat → List Int} (h : Ll H rs n φ) (s : Same H H') : Ll H' rs n φ := ⟨h.len, fun k hk => s _ _ (h.row k hk)⟩
theorem Ll.snoc {H H' : Hp} {rs : List Addr} {n : Nat} {φ : Nat → List Int} {p : Addr} {l : List Int} (h : Ll H rs n φ) (s : ∀ k (hk : k < rs.length), H' rs[k] = H rs[k]) (hp : H' p = some (lp l)) (e : l = φ n) : Ll H' (rs ++ [p]) (n + 1) φ := by
  refine ⟨by rw [List.length_append, h.len]; rfl, fun k hk => ?_⟩
  by_cases c : k < rs.length
  · rw [show (rs ++ [p])[k] = rs[k] from List.getElem_append_left _, s k c]
    exact h.row k c
  · have ek : k = rs.length := by rw [List.length_append] at hk; simp at hk; omega
    subst ek
    rw [show (rs ++ [p])[rs.length] = p by rw [List.getElem_append_right (Nat.le_refl _)]; simp, hp, e, h.len]
/-- all these addresses are free -/
def Fr (H : Hp) (rs : List Addr) : Prop := ∀ r ∈ rs, H r = none
theorem Fr.snoc {H : Hp} {rs : List Addr} {p : Addr} (h : Fr H rs) (hp : H p = none) : Fr H (rs ++ [p]) := fun r hr => by
  rcases List.mem_append.mp hr with e | e
  · exact h r e
  · rw [List.mem_singleton.mp e]
    exact hp
theorem get_ref {rs : List Addr} {i : Nat} {x : V} (h : (rs.map V.ref)[i]? = some x) : ∃ hi : i < rs.length, x = .ref rs[i] := by
  rw [List.getElem?_map] at h
  obtain ⟨b, hb, rfl⟩ := Option.map_eq_some_iff.mp h
  obtain ⟨h1, e1⟩ := List.getElem?_eq_some_iff.mp hb
  exact ⟨h1, by rw [e1]⟩
section
variable {P : Program} {w : World} {K : PySem.W.Frag} {mg : Str → Option Value} {base : Heap}
def spSlopes : Sp := fun vs H Q _ => ∃ (a : Addr) (l : List Int) (t : Nat), vs = [.ref a, .int t] ∧ H a = some (tp l) ∧ t + 1 ≤ l.length ∧ l.length ≤ 100 ∧ (∀ i j, i + j ≤ t → ∀ z ∈ dd i j l, sm z) ∧
  ∀ p rs H', Same H H' → H p = none → Fr H rs → H' p = some (.lst (rs.map V.ref)) → Ll H' rs (t + 1) (fun k => dd (t - k) k l) → Q (.ref p) H'
theorem ok_laying_slopes (T : Facts K mg) : FnOk P w K mg base CX0 2 T.f_laying_slopes T.fd_laying_slopes ["entries", "times"] spSlopes := by
  have G_laying_slope := ok_laying_slope (P := P) (w := w) (base := base) T
  refine T.F_laying_slopes.ok sc_laying_slopes (fun vs H Q E h => ?_) (fun cdv A outer s H vs Q E hr h => ?_)
  · obtain ⟨a, l, t, rfl, _⟩ := h
    rfl
  · obtain ⟨a, l, t, rfl, ha, h1, h2, hs, q⟩ := h
    refine ⟨_, (PSs.nox (pss_cons (ps_set (i := 2) sc_laying_slopes.nd rfl (.inl rfl) (pe_lst (pa_cons (pe_callTy call_list_of (by rfl) T.z_list (by decide +kernel) (pa_cons (pv 0) pa_nil)) pa_nil)))
    (pss_cons (ps_for PassesOwn.never (by rfl) (pi_range1 (by rfl) T.z_range (pa_cons (pv 1) pa_nil)) (pg_name (i := 3) sc_laying_slopes.nd rfl (.inl rfl))
      (pss_one (ps_set (i := 2) sc_laying_slopes.nd rfl (.inl rfl) (pe_lst (pa_star (pe_lc (own := [("one", 4)]) (g := (gName 4)) (tt := tYes) (by rfl) sc_laying_slopes.nd (pi_list (pv 2)) (blkOk_by (N := N_laying_slopes) (sc := defScope s_laying_slopes) (by decide +kernel)) (fun _ _ _ _ _ => (pg_name (i := 4) sc_laying_slopes.nd rfl (.inl rfl))) (fun _ _ _ _ _ => pts_nil) (fun _ _ _ _ _ => (pe_call G_laying_slope hr (by rfl) T.g_laying_slope T.F_laying_slope.kp T.b_laying_slope .nil pass0 (pa_cons (pv 4) (pa_cons pe_bl pa_nil))))) (pa_cons (pe_call G_laying_slope hr (by rfl) T.g_laying_slope T.F_laying_slope.kp T.b_laying_slope .nil pass0 (pa_cons (pe_ix ix_list (pv 2) (pe_un un_neg pe_int) (fun _ _ => rfl)) (pa_cons pe_bl pa_nil))) pa_nil))))))
    (pss_one (ps_ret (pv 2)))))), ?_⟩
    refine ⟨_, rfl, a, _, rfl, .inr (SqT.of ha), fun p0 n0 => gen_upd H p0 (lp l) n0 fun H1 s1 f1 => ⟨by show 1 ≤ sizeLine; decide, fun p1 n1 => gen_upd H1 p1 (.lst [.ref p0]) n1 fun H2 s2 f2 => ?_⟩⟩
    refine ⟨_, rfl, t, rfl, by omega, by omega, for_range (n := (t : Int).toNat) (fun u σ H' => ∃ fa rs y3, σ = [some (.ref a), some (.int t), some (.ref fa), y3, none] ∧ Same H H' ∧ H fa = none ∧ Fr H rs ∧ H' fa = some (.lst (rs.map V.ref)) ∧ Ll H' rs (u + 1) (fun k => dd (u - k) k l)) ⟨p1, [p0], none, rfl, s1.trans s2, Same.free s1 n1, fun r hr => by rw [List.mem_singleton.mp hr]; exact n0, f2, ⟨rfl, fun k hk => ?_⟩⟩ (fun u σ H' hu hP => ?_) (fun σ H' hP => ?_)⟩
    · have k0 : k = 0 := by have : k < 1 := hk; omega
      subst k0
      exact s2 _ _ f1
    · obtain ⟨fa, rs, y3, rfl, sH, nfa, fr, hfa, ll⟩ := hP
      have hu2 : u < t := by omega
      refine ⟨_, rfl, fa, rfl, ⟨_, SqL.of hfa⟩, fun D hD => lc_list (xs := rs.map V.ref) (fun j H3 => Same H' H3 ∧ ∃ ss, H3 D = some (.lst (ss.map V.ref)) ∧ Fr H ss ∧ Ll H3 ss j (fun k => dd (u + 1 - k) k l)) ⟨same_upd0 hD, [], upd_same, fun r hr => (nomatch hr), rfl, fun k hk => absurd hk (Nat.not_lt_zero k)⟩ (fun j H3 _ hP3 => SqL.of (hP3.1 _ _ hfa)) (fun j x H3 hx hP3 => ?_) (fun H3 hP3 => ?_)⟩
      · obtain ⟨s3, ss, hL, fs, l3⟩ := hP3
        obtain ⟨hj, rfl⟩ := get_ref hx
        have hj2 : j < u + 1 := by rw [← ll.len]; exact hj
        have hrow := s3 _ _ (ll.row j hj)
        have dl := dd_len (u - j) j l
        refine ⟨rfl, _, rfl, rs[j], _, false, rfl, hrow, by omega, by omega, hs (u - j) j (by omega), fun p4 H4 s4 n4 f4 => ?_⟩
        have hL4 := s4 _ _ hL
        have nD4 : ∀ q ls, H4 q = some (lp ls) → H3 q = none ∨ True → q ≠ D ∨ True := fun _ _ _ _ => .inr True.intro
        have p4D : p4 ≠ D := fun z => by rw [z, hL] at n4; cases n4
        have dH : ∀ b o, H' b = some o → b ≠ D := fun b o e => ne_of_none e hD
        refine ⟨_, hL4, by rw [List.length_map, l3.len]; exact small1000 (by omega), fun b o e => ?_, ss ++ [p4], by rw [upd_same, List.map_append]; rfl, fs.snoc (Same.free sH (Same.free s3 n4)), l3.snoc (fun k hk => ?_) (by rw [upd_ne p4D]; exact f4) ?_⟩
        · rw [upd_ne (dH b o e)]
          exact s4 _ _ (s3 _ _ e)
        · have e3 := l3.row k hk
          have nk : ss[k] ≠ D := fun z => by
            have e4 := e3
            rw [z, hL] at e4
            have hh := HO.lst.inj (Option.some.inj e4)
            have dl2 := dd_len (u + 1 - k) k l
            have hk2 : k < j := by rw [← l3.len]; exact hk
            have c0 := congrArg (fun zs => zs[0]?) hh
            have : 0 < (dd (u + 1 - k) k l).length := by omega
            have : 0 < ss.length := by omega
            simp only [List.getElem?_map] at c0
            rw [List.getElem?_eq_getElem (by omega), List.getElem?_eq_getElem (by omega)] at c0
            cases c0
          rw [upd_ne nk, s4 _ _ e3, e3]
        · rw [if_neg (by decide), dX_dd]
          rw [show u - j + 1 = u + 1 - j by omega]
      · obtain ⟨s3, ss, hL, fs, l3⟩ := hP3
        rw [List.length_map, ll.len] at l3
        refine ⟨D, _, rfl, .inr (SqL.of hL), ?_⟩
        obtain ⟨rs0, rl, ers⟩ : ∃ rs0 rl, rs = rs0 ++ [rl] := ⟨rs.dropLast, rs.getLast (fun z => by have := ll.len; rw [z] at this; cases this), (List.dropLast_concat_getLast _).symm⟩
        have lr0 : rs0.length = u := by have := ll.len; rw [ers, List.length_append] at this; simp at this; exact this
        have hrl : H' rl = some (lp (dd 0 u l)) := by
          have := ll.row u (by rw [ll.len]; omega)
          rw [Nat.sub_self] at this
          rw [← this]
          congr 1
          simp only [ers]
          rw [List.getElem_append_right (by omega)]
          simp [lr0]
        have hfa' : H' fa = some (.lst (rs0.map V.ref ++ [.ref rl])) := by rw [hfa, ers, List.map_append]; rfl
        have dl := dd_len 0 u l
        refine ⟨_, rfl, _, rfl, fa, _, _, _, rfl, rfl, SqL.of (s3 _ _ hfa'), atI_last _ _, rl, _, true, rfl, s3 _ _ hrl, by omega, by omega, hs 0 u (by omega), fun p5 H5 s5 n5 f5 => ?_⟩
        refine ⟨by rw [List.length_append, List.length_map, l3.len]; exact Nat.le_of_lt (small1000 (by show u + 1 + 1 ≤ 1000; omega)), fun p6 n6 => gen_upd H5 p6 _ n6 fun H6 s6 f6 => ?_⟩
        refine ⟨p6, ss ++ [p5], _, rfl, ((sH.trans s3).trans s5).trans s6, Same.free sH (Same.free s3 (Same.free s5 n6)), fs.snoc (Same.free sH (Same.free s3 n5)), by rw [f6, List.map_append]; rfl, l3.snoc (fun k hk => ?_) (s6 _ _ f5) ?_⟩
        · have e3 := l3.row k hk
          rw [(s5.trans s6) _ _ e3, e3]
        · rw [if_pos rfl, dY_dd, Nat.sub_self]
    · obtain ⟨fa, rs, y3, rfl, sH, nfa, fr, hfa, ll⟩ := hP
      rw [Int.toNat_natCast] at ll
      exact ⟨_, rfl, q fa rs H' sH nfa fr hfa ll⟩
end
end K10

set_option Elab.async false
set_option linter.all false
set_option maxRecDepth 100000
set_option maxHeartbeats 4000000
namespace K10
open PySem PySem.Spec PyProof.Rows L2 StX RZ MyR SlX OwnR OwnF EnumT
theorem tab_inj {n : Nat} {f g : Nat → Int} (h : f = g) : tab n f = tab n g := by rw [h]
/-- the entries so far of a laying -/
def Lc (t : Nat) (f g : List Int) (i k : Nat) : Int := su i fun j => sgn j * ch t j * cv (dd (t - j) j f) (co (dd j (t - j) g)) k
theorem evF_su (N : Nat) (φ : Nat → Nat → Int) (x y : Int) : ∀ n, evF N (fun k => su n fun j => φ j k) x y = su n fun j => evF N (φ j) x y
  | 0 => evF_zero x y N
  | n + 1 => by
    show evF N (fun k => su n (fun j => φ j k) + φ n k) x y = su n (fun j => evF N (φ j) x y) + evF N (φ n) x y
    rw [evF_add, evF_su N φ x y n]
theorem L_tab {t : Nat} {f g : List Int} (hf : t + 1 ≤ f.length) (hg : t + 1 ≤ g.length) : tb (f.length + g.length - 1 - 2 * t) (Lc t f g (t + 1)) = L t f g := by
  refine ev_inj (by rw [tb_len, L_len t f g hf hg]) fun x y => ?_
  rw [ev_tb, L_sum x y t f g hf hg]
  unfold Lc
  rw [evF_su]
  refine su_congr _ fun j hj => ?_
  have l1 := dd_len (t - j) j f
  have l2 := dd_len j (t - j) g
  have n1 : dd (t - j) j f ≠ [] := ne_of2 (by omega)
  have n2 : dd j (t - j) g ≠ [] := ne_of2 (by omega)
  rw [evF_mul]
  congr 1
  rw [← ev_ml n1 n2]
  unfold ev
  rw [ml_len, show (dd (t - j) j f).length + (dd j (t - j) g).length - 1 = f.length + g.length - 1 - 2 * t by omega]
  exact evF_congr _ fun k _ => (co_ml n2 k).symm
/-- what is asked of what is laid -/
structure LdOk (t : Nat) (f g : List Int) : Prop where
  lf : t + 1 ≤ f.length
  lg : t + 1 ≤ g.length
  mf : f.length ≤ 42
  mg : g.length ≤ 42
  sf : ∀ i j, i + j ≤ t → nm (dd i j f) ≤ 2 ^ 150
  sg : ∀ i j, i + j ≤ t → nm (dd i j g) ≤ 2 ^ 150
theorem lt400 {x i : Nat} (h : x ≤ 2 ^ i) (hi : i < 400) : x < 2 ^ 400 := Nat.lt_of_le_of_lt h (Nat.pow_lt_pow_right (by decide) hi)
theorem LdOk.smf {t : Nat} {f g : List Int} (h : LdOk t f g) (i j : Nat) (hij : i + j ≤ t) : ∀ z ∈ dd i j f, sm z := fun z hz => lt400 (Nat.le_trans (nm_mem hz) (h.sf i j hij)) (by decide)
theorem LdOk.smg {t : Nat} {f g : List Int} (h : LdOk t f g) (i j : Nat) (hij : i + j ≤ t) : ∀ z ∈ dd i j g, sm z := fun z hz => lt400 (Nat.le_trans (nm_mem hz) (h.sg i j hij)) (by decide)
section
variable {P : Program} {w : World} {K : PySem.W.Frag} {mg : Str → Option Value} {base : Heap}
def spAddP : Sp := fun vs H Q _ => ∃ (R a b : Addr) (N : Nat) (g : Nat → Int) (xs ys : List Int) (c : Int), vs = [.ref R, .ref a, .ref b, .int c] ∧ H R = some (.lst (tab N g)) ∧ H a = some (lp xs) ∧ H b = some (lp ys) ∧ a ≠ R ∧ b ≠ R ∧ xs.length + ys.length ≤ N + 1 ∧ N ≤ 900 ∧
  (∀ x ∈ xs, sm x ∧ sm (c * x)) ∧ (∀ y ∈ ys, sm y) ∧ sm c ∧ ∀ H', Sx R H H' → H' R = some (.lst (tab N fun k => g k + c * cv xs (co ys) k)) → Q .non H'
theorem ok_add_product (T : Facts K mg) : FnOk P w K mg base CX0 1 T.f_add_product T.fd_add_product ["found", "one", "other", "factor"] spAddP := by
  refine T.F_add_product.ok sc_add_product (fun vs H Q E h => ?_) (fun cdv A outer s H vs Q E hr h => ?_)
  · obtain ⟨R, a, b, N, g, xs, ys, c, rfl, _⟩ := h
    rfl
  · obtain ⟨R, a, b, N, g, xs, ys, c, rfl, hR, ha, hb, naR, nbR, hN, hN9, hx, hy, hc, q⟩ := h
    refine ⟨_, (PSs.nox (pss_one (ps_for PassesOwn.never (by rfl) (pi_enum (by rfl) T.z_enumerate (pa_cons (pv 1) pa_nil)) (pg_tup (by rfl) (pgs_cons (pg_name (i := 4) sc_add_product.nd rfl (.inl rfl)) (pgs_cons (pg_name (i := 5) sc_add_product.nd rfl (.inl rfl)) pgs_nil)))
      (pss_one (ps_for PassesOwn.never (by rfl) (pi_enum (by rfl) T.z_enumerate (pa_cons (pv 2) pa_nil)) (pg_tup (by rfl) (pgs_cons (pg_name (i := 6) sc_add_product.nd rfl (.inl rfl)) (pgs_cons (pg_name (i := 7) sc_add_product.nd rfl (.inl rfl)) pgs_nil)))
        (pss_one (ps_augS (pv 0) (pe_op op_add (pv 4) (pv 6)) OwnC.get_list (pe_op op_mulW (pe_op op_mulW (pv 3) (pv 5)) (pv 7)) ip_add set_list))))))), ?_⟩
    refine ⟨_, rfl, a, _, rfl, SqL.of ha, for_enum (xs := xs.map V.int) (fun i σ H' => ∃ y4 y5 y6 y7, σ = [some (.ref R), some (.ref a), some (.ref b), some (.int c), y4, y5, y6, y7] ∧ Sx R H H' ∧ H' R = some (.lst (tab N fun k => g k + c * cv (xs.take i) (co ys) k))) ⟨none, none, none, none, rfl, Sx.refl R H, ?_⟩ (fun i σ H' hP => ?_) (fun i x B σ H' hxi hP hB => ?_) (fun σ H' hP => ?_)⟩
    · rw [hR]
      congr 2
      refine tab_inj (funext fun k => ?_)
      show g k = g k + c * 0
      omega
    · obtain ⟨y4, y5, y6, y7, _, sH, _⟩ := hP
      exact SqL.of (sH _ _ naR ha)
    · obtain ⟨y4, y5, y6, y7, rfl, sH, hL⟩ := hP
      obtain ⟨hi2, rfl⟩ := int_get hxi
      refine ⟨B, _, rfl, SqT.of upd_same, rfl, _, _, rfl, _, _, rfl, rfl, ?_⟩
      refine gen_upd H' B _ hB (fun H2 s2 _ => ?_)
      have sH2 : Sx R H H2 := sH.trans (Sx.of s2)
      have hL2 := s2 _ _ hL
      rw [tab_ext (g := fun k => g k + c * J xs (co ys) i 0 k) fun k hk => by rw [J_0]] at hL2
      refine ⟨_, rfl, b, _, rfl, SqL.of (sH2 _ _ nbR hb), for_enum (xs := ys.map V.int) (fun j σ H3 => ∃ y6 y7, σ = [some (.ref R), some (.ref a), some (.ref b), some (.int c), some (.int ((i : Nat) : Int)), some (.int (co xs i)), y6, y7] ∧ Sx R H H3 ∧ H3 R = some (.lst (tab N fun k => g k + c * J xs (co ys) i j k))) ⟨y6, y7, rfl, sH2, hL2⟩ (fun j σ H3 hP => ?_) (fun j y B2 σ H3 hyj hP hB2 => ?_) (fun σ H3 hP => ?_)⟩
      · obtain ⟨y6, y7, _, sH3, _⟩ := hP
        exact SqL.of (sH3 _ _ nbR hb)
      · obtain ⟨y6, y7, rfl, sH3, hL3⟩ := hP
        obtain ⟨hj2, rfl⟩ := int_get hyj
        refine ⟨B2, _, rfl, SqT.of upd_same, rfl, _, _, rfl, _, _, rfl, rfl, ?_⟩
        refine gen_upd H3 B2 _ hB2 (fun H4 s4 _ => ?_)
        have sH4 : Sx R H H4 := sH3.trans (Sx.of s4)
        have hL4 := s4 _ _ hL3
        have e1 : ((i : Nat) : Int) + ((j : Nat) : Int) = ((i + j : Nat) : Int) := by omega
        obtain ⟨sx, scx⟩ := hx (co xs i) (by rw [co_get hi2]; exact List.getElem_mem hi2)
        refine ⟨_, rfl, _, rfl, _, rfl, _, _, rfl, rfl, R, _, i + j, _, rfl, by rw [← e1], SqL.of hL4, tab_get (by omega), ?_⟩
        refine ⟨_, rfl, _, rfl, _, _, rfl, rfl, sm_mul hc sx, _, rfl, _, _, rfl, rfl, sm_mul scx (sm_co hy hj2), _, _, rfl, rfl, R, _, _, (i + j), rfl, rfl, hL4, ?_, ?_⟩
        · rw [tab_len]
          exact ix_at e1 (by omega)
        · refine ⟨_, _, rfl, fun d o n e => ?_, ?_⟩
          · rw [upd_ne n]
            exact sH4 _ _ n e
          · rw [upd_same]
            show some (HO.lst ((tab N fun k => g k + c * J xs (co ys) i j k).set (i + j) (.int (g (i + j) + c * J xs (co ys) i j (i + j) + c * co xs i * co ys j)))) = _
            rw [tab_set]
            congr 2
            refine tab_ext fun k hk => ?_
            rw [← J_step]
            by_cases z : k = i + j
            · subst z
              rw [if_pos rfl, if_pos rfl]
              grind
            · rw [if_neg z, if_neg z]
      · obtain ⟨y6, y7, rfl, sH3, hL3⟩ := hP
        rw [List.length_map, tab_ext (g := fun k => g k + c * cv (xs.take (i + 1)) (co ys) k) fun k hk => by rw [J_end hi2]] at hL3
        exact ⟨_, _, _, _, rfl, sH3, hL3⟩
    · obtain ⟨y4, y5, y6, y7, rfl, sH, hL⟩ := hP
      rw [List.length_map, List.take_length] at hL
      exact q H' sH hL
end
end K10

set_option Elab.async false
set_option linter.all false
set_option maxRecDepth 100000
set_option maxHeartbeats 4000000
namespace K10
open PySem PySem.Spec PyProof.Rows L2 StX RZ MyR SlX OwnR OwnF EnumT
section
variable {P : Program} {w : World} {K : PySem.W.Frag} {mg : Str → Option Value} {base : Heap}
theorem sgn_abs (k : Nat) : (sgn k).natAbs = 1 := by
  unfold sgn
  split <;> rfl
theorem tab_rep0 (n : Nat) : (List.replicate n [V.int 0]).flatten = tab n fun _ => 0 := by
  rw [← tab_rep]
  induction n with
  | zero => rfl
  | succ n ih => rw [List.replicate_succ, List.flatten_cons, ih, List.replicate_succ]; rfl
def spLaidIn : Sp := fun vs H Q _ => ∃ (a b : Addr) (f g : List Int) (t : Nat), vs = [.ref a, .ref b, .int t] ∧ H a = some (tp f) ∧ H b = some (tp g) ∧ LdOk t f g ∧ ∀ p H', Same H H' → H' p = some (tp (L t f g)) → Q (.ref p) H'
theorem ok_laid_in (T : Facts K mg) : FnOk P w K mg base CX0 3 T.f_laid_in T.fd_laid_in ["one", "other", "times"] spLaidIn := by
  have G_laying_slopes := ok_laying_slopes (P := P) (w := w) (base := base) T
  have G_add_product := ok_add_product (P := P) (w := w) (base := base) T
  have G_lots_of := ok_lots_of (P := P) (w := w) (base := base) T
  refine T.F_laid_in.ok sc_laid_in (fun vs H Q E h => ?_) (fun cdv A outer s H vs Q E hr h => ?_)
  · obtain ⟨a, b, f, g, t, rfl, _⟩ := h
    rfl
  · obtain ⟨a, b, f, g, t, rfl, ha, hb, ok, q⟩ := h
    have lf := ok.lf
    have lg := ok.lg
    have mf := ok.mf
    have mg' := ok.mg
    refine ⟨_, (PSs.nox (pss_cons (ps_set (i := 3) sc_laid_in.nd rfl (.inl rfl) (pe_op op_rep (pe_lst (pa_cons pe_int pa_nil)) (pe_op op_sub (pe_op op_sub (pe_op op_add (pe_callB call_len_seq (by rfl) T.z_len (by decide +kernel) (pa_cons (pv 0) pa_nil)) (pe_callB call_len_seq (by rfl) T.z_len (by decide +kernel) (pa_cons (pv 1) pa_nil))) pe_int) (pe_op op_mulW pe_int (pv 2)))))
    (pss_cons (ps_par (i := 4) (j := 5) (by rfl) sc_laid_in.nd rfl rfl (by decide) rfl rfl (pa_cons (pe_call G_laying_slopes hr (by rfl) T.g_laying_slopes T.F_laying_slopes.kp T.b_laying_slopes .nil pass0 (pa_cons (pv 0) (pa_cons (pv 2) pa_nil))) (pa_cons (pe_call G_laying_slopes hr (by rfl) T.g_laying_slopes T.F_laying_slopes.kp T.b_laying_slopes .nil pass0 (pa_cons (pv 1) (pa_cons (pv 2) pa_nil))) pa_nil)) (by rfl))
    (pss_cons (ps_for PassesOwn.never (by rfl) (pi_range1 (by rfl) T.z_range (pa_cons (pe_op op_add (pv 2) pe_int) pa_nil)) (pg_name (i := 6) sc_laid_in.nd rfl (.inl rfl))
      (pss_one (ps_expr (pe_call G_add_product (hr.mono (by decide)) (by rfl) T.g_add_product T.F_add_product.kp T.b_add_product .nil pass0 (pa_cons (pv 3) (pa_cons (pe_ix ix_list (pv 4) (pv 6) (fun _ _ => rfl)) (pa_cons (pe_ix ix_list (pv 5) (pe_op op_sub (pv 2) (pv 6)) (fun _ _ => rfl)) (pa_cons (pe_op op_mulW (pe_call G_lots_of (hr.mono (by decide)) (by rfl) T.g_lots_of T.F_lots_of.kp T.b_lots_of .nil pass0 (pa_cons (pv 2) (pa_cons (pv 6) pa_nil))) (pe_ifExp (pt_cmpR op_eq (pe_op op_mod (pv 6) pe_int) pe_int (nomark _)) pe_int (pe_un un_neg pe_int))) pa_nil))))))))
    (pss_one (ps_ret (pe_tupleOf (by rfl) T.z_tuple (pv 3)))))))), ?_⟩
    refine ⟨by show 1 ≤ sizeLine; decide, fun p0 n0 => gen_upd H p0 (.lst [.int 0]) n0 fun H0 s0 f0 => ⟨_, rfl, a, _, rfl, .inr (SqT.of (s0 _ _ ha)), _, rfl, b, _, rfl, .inr (SqT.of (s0 _ _ hb)), ?_⟩⟩
    rw [List.length_map, List.length_map]
    refine ⟨_, _, rfl, rfl, _, _, rfl, rfl, _, rfl, _, _, rfl, rfl, sm_mul (show sm 2 by show (2 : Nat) < 2 ^ 400; exact lt400 (i := 1) (by decide) (by decide)) (sm_le (n := 100) (show ((t : Nat) : Int).natAbs ≤ 100 by omega) (by decide)), _, _, rfl, rfl, ?_⟩
    obtain ⟨N, hN⟩ : ∃ N, N = f.length + g.length - 1 - 2 * t := ⟨_, rfl⟩
    have eN : ((f.length : Int) + (g.length : Int) - 1 - 2 * (t : Int)) = (N : Int) := by omega
    dsimp only []
    rw [eN]
    have hz1 : [V.int 0].length * (N : Int).toNat ≤ sizeLine := by
      have hz : (1000 : Nat) ≤ sizeLine := by decide
      show 1 * (N : Int).toNat ≤ sizeLine
      omega
    refine ⟨p0, N, _, rfl, rfl, f0, by omega, by omega, hz1, fun R nR => ?_⟩
    rw [Int.toNat_natCast, tab_rep0]
    refine gen_upd H0 R _ nR fun H1 s1 f1 => ?_
    have s01 := s0.trans s1
    refine ⟨_, rfl, _, rfl, a, f, t, rfl, s01 _ _ ha, by omega, by omega, ok.smf, fun p2 rs H2 s2 n2 fr2 h2 l2 => ?_⟩
    refine ⟨_, rfl, _, rfl, b, g, t, rfl, (s01.trans s2) _ _ hb, by omega, by omega, ok.smg, fun p3 rs' H3 s3 n3 fr3 h3 l3 => ⟨_, _, rfl, ?_⟩⟩
    have f3 := (s2.trans s3) _ _ f1
    have h2' := s3 _ _ h2
    have l2' := l2.same s3
    have ne2 : ∀ r ∈ rs, r ≠ R := fun r hr z => by have := fr2 r hr; rw [z, f1] at this; cases this
    have ne3 : ∀ r ∈ rs', r ≠ R := fun r hr z => by have := fr3 r hr; rw [z, s2 _ _ f1] at this; cases this
    have nR2 : p2 ≠ R := fun z => by rw [z, f1] at n2; cases n2
    have nR3 : p3 ≠ R := fun z => by rw [z, s2 _ _ f1] at n3; cases n3
    have nHR : ∀ d o, H d = some o → d ≠ R := fun d o e => ne_of_none (s0 _ _ e) nR
    refine ⟨_, rfl, _, _, rfl, rfl, _, rfl, by omega, by omega, for_range (n := ((t : Int) + 1).toNat) (fun i σ H' => ∃ y6, σ = [some (.ref a), some (.ref b), some (.int t), some (.ref R), some (.ref p2), some (.ref p3), y6] ∧ Sx R H3 H' ∧ H' R = some (.lst (tab N (Lc t f g i)))) ⟨none, rfl, Sx.refl R H3, f3⟩ (fun i σ H' hi hP => ?_) (fun σ H' hP => ?_)⟩
    · obtain ⟨y6, rfl, sH, hL⟩ := hP
      have hi2 : i ≤ t := by omega
      have ei : (0 : Int) + (i : Int) = ((i : Nat) : Int) := by omega
      have et : (t : Int) - (0 + (i : Int)) = ((t - i : Nat) : Int) := by omega
      have hr1 : i < rs.length := by rw [l2'.len]; omega
      have hr2 : t - i < rs'.length := by rw [l3.len]; omega
      have q1 := sH _ _ (ne2 _ (List.getElem_mem hr1)) (l2'.row i hr1)
      have q2 := sH _ _ (ne3 _ (List.getElem_mem hr2)) (l3.row (t - i) hr2)
      rw [show t - (t - i) = i by omega] at q2
      refine ⟨_, rfl, _, rfl, _, rfl, p2, _, _, _, rfl, rfl, SqL.of (sH _ _ nR2 h2'), at_of ei (by rw [List.getElem?_map, List.getElem?_eq_getElem hr1]; rfl), ?_⟩
      refine ⟨_, rfl, _, rfl, _, rfl, _, _, rfl, rfl, p3, _, _, _, rfl, rfl, SqL.of (sH _ _ nR3 h3), at_of et (by rw [List.getElem?_map, List.getElem?_eq_getElem hr2]; rfl), ?_⟩
      have lotE : [V.int (t : Int), V.int (0 + (i : Int))] = [V.int (t : Int), V.int (i : Int)] := by rw [ei]
      have l1 := dd_len (t - i) i f
      have l2 := dd_len i (t - i) g
      refine ⟨_, rfl, _, rfl, t, i, lotE, hi2, by omega, ?_⟩
      refine ⟨_, rfl, _, _, rfl, rfl, (by show (0 : Int) < 2; decide), rfl, _, rfl, iteI (fun e => ?_) (fun e => ⟨_, rfl, ?_⟩)⟩
      · have es : sgn i = 1 := by
          unfold sgn
          rw [if_pos (by have : ((0 : Int) + (i : Int)) % 2 = 0 := e; omega)]
        have hc : ((ch t i : Nat) : Int) * 1 = sgn i * ch t i := by rw [es]; omega
        have cab : (((ch t i : Nat) : Int) * 1).natAbs ≤ 2 ^ 50 := by
          rw [hc, Int.natAbs_mul, sgn_abs, Nat.one_mul, Int.natAbs_natCast]
          exact Nat.le_trans (ch_le t i) (Nat.pow_le_pow_right (by decide) (by omega))
        refine ⟨_, _, rfl, rfl, sm_mul (sm_ch (by omega)) (show (1 : Int).natAbs < 2 ^ 400 from lt400 (i := 1) (by decide) (by decide)), R, rs[i], rs'[t - i], N, Lc t f g i, dd (t - i) i f, dd i (t - i) g, ((ch t i : Nat) : Int) * 1, rfl, hL, q1, q2, ne2 _ (List.getElem_mem hr1), ne3 _ (List.getElem_mem hr2), by omega, by omega, fun z hz => ⟨ok.smf _ _ (by omega) z hz, ?_⟩, ok.smg _ _ (by omega), lt400 cab (by decide), fun H4 s4 f4 => ⟨_, rfl, sH.trans s4, ?_⟩⟩
        · show (_ * z).natAbs < _
          rw [Int.natAbs_mul]
          exact lt400 (Nat.le_trans (Nat.mul_le_mul cab (Nat.le_trans (nm_mem hz) (ok.sf (t - i) i (by omega)))) (Nat.le_of_eq (Nat.pow_add 2 50 150).symm)) (by decide)
        · rw [f4, hc]
          rfl
      · have es : sgn i = -1 := by
          unfold sgn
          rw [if_neg (by have : ¬ ((0 : Int) + (i : Int)) % 2 = 0 := e; omega)]
        have hc : ((ch t i : Nat) : Int) * -1 = sgn i * ch t i := by rw [es]; omega
        have cab : (((ch t i : Nat) : Int) * -1).natAbs ≤ 2 ^ 50 := by
          rw [hc, Int.natAbs_mul, sgn_abs, Nat.one_mul, Int.natAbs_natCast]
          exact Nat.le_trans (ch_le t i) (Nat.pow_le_pow_right (by decide) (by omega))
        refine ⟨_, _, rfl, rfl, sm_mul (sm_ch (by omega)) (show (-1 : Int).natAbs < 2 ^ 400 from lt400 (i := 1) (by decide) (by decide)), R, rs[i], rs'[t - i], N, Lc t f g i, dd (t - i) i f, dd i (t - i) g, ((ch t i : Nat) : Int) * -1, rfl, hL, q1, q2, ne2 _ (List.getElem_mem hr1), ne3 _ (List.getElem_mem hr2), by omega, by omega, fun z hz => ⟨ok.smf _ _ (by omega) z hz, ?_⟩, ok.smg _ _ (by omega), lt400 cab (by decide), fun H4 s4 f4 => ⟨_, rfl, sH.trans s4, ?_⟩⟩
        · show (_ * z).natAbs < _
          rw [Int.natAbs_mul]
          exact lt400 (Nat.le_trans (Nat.mul_le_mul cab (Nat.le_trans (nm_mem hz) (ok.sf (t - i) i (by omega)))) (Nat.le_of_eq (Nat.pow_add 2 50 150).symm)) (by decide)
        · rw [f4, hc]
          rfl
    · obtain ⟨y6, rfl, sH, hL⟩ := hP
      rw [show ((t : Int) + 1).toNat = t + 1 by omega] at hL
      refine ⟨_, rfl, .inl ⟨R, _, rfl, SqL.of hL, fun p np => q p _ (fun d o e => ?_) ?_⟩⟩
      · exact same_upd0 np _ _ (sH _ _ (nHR d o e) ((s01.trans (s2.trans s3)) _ _ e))
      · rw [upd_same, tab_tb, hN, L_tab ok.lf ok.lg]
def spReqForm (C : Addr) : Sp := fun vs H Q _ => ∃ (a : Addr) (l : List Int), vs = [.ref a] ∧ Fo C H a l ∧ Q .non H
theorem ok_require_form (T : Facts K mg) : FnOk P w K mg base CX0 1 T.f_require_form T.fd_require_form ["value"] (spReqForm T.C_Form) := by
  refine T.F_require_form.ok sc_require_form (fun vs H Q E h => ?_) (fun cdv A outer s H vs Q E hr h => ?_)
  · obtain ⟨a, l, rfl, _⟩ := h
    rfl
  · obtain ⟨a, l, rfl, fa, q⟩ := h
    obtain ⟨dx, t, ha, ht⟩ := fa.slt
    refine ⟨_, (PSs.nox (pss_one (ps_if (pt_not (pt_val (pe_callB (call_isiF T.C_Form) (by rfl) T.z_isinstance (by decide +kernel) (pa_cons (pv 0) (pa_cons (pe_glob (v := .ref T.C_Form) (by rfl) T.g_Form rfl) pa_nil)))))
      (pss_one ps_never)
      pss_nil))), ?_⟩
    exact ⟨_, rfl, isi_form (X := (cxOf CX0 P w K mg base N_require_form (Str.ofString "require_form") (defScope s_require_form) T.f_require_form cdv A outer s H E).nox) T.oc_Form ha ⟨true, rfl, iteF q⟩⟩
def spLaid (C : Addr) : Sp := fun vs H Q _ => ∃ (a b : Addr) (f g : List Int) (t : Nat), vs = [.ref a, .ref b, .int t] ∧ Fo C H a f ∧ Fo C H b g ∧ LdOk t f g ∧ f.length + g.length ≤ 42 ∧ ∀ p H', Same H H' → Fo C H' p (L t f g) → Q (.ref p) H'
theorem ok_laid (T : Facts K mg) : FnOk P w K mg base CX0 8 T.f_laid T.fd_laid ["one", "other", "times"] (spLaid T.C_Form) := by
  have G_require_form := ok_require_form (P := P) (w := w) (base := base) T
  have G_is_from := ok_is_from (P := P) (w := w) (base := base) T
  have G_laid_in := ok_laid_in (P := P) (w := w) (base := base) T
  have G_Form_degree : FnOk P w K mg base CX0 1 T.f_Form_degree T.fd_Form_degree ["self"] (spDeg T.C_Form) := ok_Form_degree T
  have G_Form_entries := ok_Form_entries (P := P) (w := w) (base := base) T
  have G_form_of : FnOk P w K mg base CX0 7 T.f_form_of T.fd_form_of ["entries"] (spMake T.C_Form) := ok_form_of T
  refine T.F_laid.ok sc_laid (fun vs H Q E h => ?_) (fun cdv A outer s H vs Q E hr h => ?_)
  · obtain ⟨a, b, f, g, t, rfl, _⟩ := h
    rfl
  · obtain ⟨a, b, f, g, t, rfl, fa, fb, ok, hl, q⟩ := h
    have lf := ok.lf
    have lg := ok.lg
    refine ⟨_, (PSs.nox (pss_cons (ps_expr (pe_call G_require_form (hr.mono (by decide)) (by rfl) T.g_require_form T.F_require_form.kp T.b_require_form .nil pass0 (pa_cons (pv 0) pa_nil)))
    (pss_cons (ps_expr (pe_call G_require_form (hr.mono (by decide)) (by rfl) T.g_require_form T.F_require_form.kp T.b_require_form .nil pass0 (pa_cons (pv 1) pa_nil)))
    (pss_cons (ps_if (pt_not (pt_val (pe_call G_is_from (hr.mono (by decide)) (by rfl) T.g_is_from T.F_is_from.kp T.b_is_from .nil pass0 (pa_cons (pv 2) (pa_cons pe_int (pa_cons (pe_callB (call_min2 (by rfl)) (by rfl) T.z_min (by decide +kernel) (pa_cons (pe_prp (pv 0) T.oc_Form T.pr_Form_degree G_Form_degree T.b_Form_degree (hr.mono (by decide))) (pa_cons (pe_prp (pv 1) T.oc_Form T.pr_Form_degree G_Form_degree T.b_Form_degree (hr.mono (by decide))) pa_nil))) pa_nil))))))
      (pss_one ps_never)
      pss_nil)
    (pss_cons (ps_if (pt_cmpR op_gt (pe_op op_sub (pe_op op_add (pe_prp (pv 0) T.oc_Form T.pr_Form_degree G_Form_degree T.b_Form_degree (hr.mono (by decide))) (pe_prp (pv 1) T.oc_Form T.pr_Form_degree G_Form_degree T.b_Form_degree (hr.mono (by decide)))) (pe_op op_mulW pe_int (pv 2))) (pe_glob (v := .int 40) (by rfl) T.c_MOST_LAID.choose_spec ⟨_, rfl⟩) (nomark _))
      (pss_one ps_never)
      pss_nil)
    (pss_one (ps_ret (pe_call G_form_of hr (by rfl) T.g_form_of T.F_form_of.kp T.b_form_of .nil pass0 (pa_cons (pe_call G_laid_in (hr.mono (by decide)) (by rfl) T.g_laid_in T.F_laid_in.kp T.b_laid_in .nil pass0 (pa_cons (pe_prp (pv 0) T.oc_Form T.pr_Form_entries G_Form_entries T.b_Form_entries (hr.mono (by decide))) (pa_cons (pe_prp (pv 1) T.oc_Form T.pr_Form_entries G_Form_entries T.b_Form_entries (hr.mono (by decide))) (pa_cons (pv 2) pa_nil)))) pa_nil))))))))), ?_⟩
    refine ⟨_, rfl, a, f, rfl, fa, _, rfl, b, g, rfl, fb, ?_⟩
    refine ⟨_, rfl, _, rfl, prop_deg fa ⟨_, rfl, prop_deg fb ⟨_, _, rfl, t, 0, _, rfl, by omega, ?_, true, rfl, iteF ?_⟩⟩⟩
    · split <;> omega
    · refine ⟨_, rfl, prop_deg fa ⟨_, rfl, prop_deg fb ⟨_, _, rfl, rfl, _, rfl, _, _, rfl, rfl, sm_mul (show sm 2 by show (2 : Nat) < 2 ^ 400; exact lt400 (i := 1) (by decide) (by decide)) (sm_le (n := 100) (show ((t : Nat) : Int).natAbs ≤ 100 by omega) (by decide)), _, _, rfl, rfl, _, _, rfl, rfl, _, rfl, ?_⟩⟩⟩
      rw [decide_eq_false (show ¬ (40 : Int) < (f.length : Int) - 1 + ((g.length : Int) - 1) - 2 * (t : Int) by omega)]
      exact iteF ⟨_, rfl, prop_ent fa fun u hu => ⟨_, rfl, prop_ent fb fun v hv => ⟨_, rfl, u, v, f, g, t, rfl, hu, hv, ok, fun p H2 s2 hp => ⟨p, _, rfl, hp, fun p2 H3 s3 n3 f3 => q p2 H3 (s2.trans s3) f3⟩⟩⟩⟩
def spPowIn : Sp := fun vs H Q _ => ∃ (a : Addr) (xs : List Int) (n : Nat), vs = [.ref a, .int n] ∧ H a = some (tp xs) ∧ xs ≠ [] ∧ xs.length ≤ 100 ∧ (∀ x ∈ xs, sm x) ∧ (∀ i, i < n → pow xs i ≠ [] ∧ (pow xs i).length ≤ 100 ∧ ∀ x ∈ pow xs i, sm x) ∧ n ≤ 100 ∧ ∀ p H', Same H H' → H' p = some (tp (pow xs n)) → Q (.ref p) H'
theorem ok_power_in (T : Facts K mg) : FnOk P w K mg base CX0 3 T.f_power_in T.fd_power_in ["pair", "degree"] spPowIn := by
  have G_product_in := ok_product_in (P := P) (w := w) (base := base) T
  refine T.F_power_in.ok sc_power_in (fun vs H Q E h => ?_) (fun cdv A outer s H vs Q E hr h => ?_)
  · obtain ⟨a, xs, n, rfl, _⟩ := h
    rfl
  · obtain ⟨a, xs, n, rfl, ha, nx, lx, hx, hp, hn, q⟩ := h
    refine ⟨_, (PSs.nox (pss_cons (ps_set (i := 2) sc_power_in.nd rfl (.inl rfl) (pe_tup (pa_cons pe_int pa_nil)))
    (pss_cons (ps_for PassesOwn.never (by rfl) (pi_range1 (by rfl) T.z_range (pa_cons (pv 1) pa_nil)) (pg_name (i := 3) sc_power_in.nd rfl (.inl rfl))
      (pss_one (ps_set (i := 2) sc_power_in.nd rfl (.inl rfl) (pe_call G_product_in hr (by rfl) T.g_product_in T.F_product_in.kp T.b_product_in .nil pass0 (pa_cons (pv 2) (pa_cons (pv 0) pa_nil))))))
    (pss_one (ps_ret (pv 2)))))), ?_⟩
    refine ⟨(by show 1 ≤ sizeLine; decide), fun p0 n0 => ⟨_, rfl, n, rfl, by omega, by omega, for_range (n := (n : Int).toNat) (fun i σ H' => ∃ r y3, σ = [some (.ref a), some (.int n), some (.ref r), y3] ∧ Same H H' ∧ H' r = some (tp (pow xs i))) ⟨p0, none, rfl, same_upd0 n0, upd_same⟩ (fun i σ H' hi hP => ?_) (fun σ H' hP => ?_)⟩⟩
    · obtain ⟨r, y3, rfl, sH, hr2⟩ := hP
      obtain ⟨h1, h2, h3⟩ := hp i (by omega)
      exact ⟨_, rfl, _, rfl, r, a, _, xs, rfl, hr2, sH _ _ ha, h1, nx, h2, lx, h3, hx, fun p H2 s2 _ hp2 => ⟨p, _, rfl, sH.trans s2, hp2⟩⟩
    · obtain ⟨r, y3, rfl, sH, hr2⟩ := hP
      rw [Int.toNat_natCast] at hr2
      exact ⟨_, rfl, q r H' sH hr2⟩
def spPowerM (C : Addr) : Sp := fun vs H Q _ => ∃ (t : Addr) (u v : Int) (n : Nat), vs = [.ref C, .ref t, .int n] ∧ H t = some (tp [u, v]) ∧ Sho u ∧ Sho v ∧ n ≤ 40 ∧ (∀ i, i ≤ n → Rw (pow [u, v] i)) ∧ ∀ p H', Same H H' → Fo C H' p (pow [u, v] n) → Q (.ref p) H'
theorem ok_Form_power (T : Facts K mg) : FnOk P w K mg base CX0 7 T.f_Form_power T.fd_Form_power ["cls", "pair", "degree"] (spPowerM T.C_Form) := by
  have G_are_short : FnOk P w K mg base CX0 3 T.f_are_short T.fd_are_short ["value"] spAreShort := ok_are_short T
  have G_require_from := ok_require_from (P := P) (w := w) (base := base) T
  have G_power_in := ok_power_in (P := P) (w := w) (base := base) T
  have G_Told_init : FnOk P w K mg base CX0 1 T.f_Told_init T.fd_Told_init ["self", "row"] (spTold T.C_Told) := ok_Told_init T
  have G_Form_init : FnOk P w K mg base CX0 5 T.f_Form_init T.fd_Form_init ["self", "entries"] (spForm T.C_Told T.C_Form) := ok_Form_init T
  refine T.F_Form_power.ok sc_Form_power (fun vs H Q E h => ?_) (fun cdv A outer s H vs Q E hr h => ?_)
  · obtain ⟨t, u, v, n, rfl, _⟩ := h
    rfl
  · obtain ⟨t, u, v, n, rfl, ht, hu, hv, hn, hp, q⟩ := h
    refine ⟨_, (PSs.nox (pss_cons (ps_if (pw_or (pt_not (pt_val (pe_call G_are_short (hr.mono (by decide)) (by rfl) T.g_are_short T.F_are_short.kp T.b_are_short .nil pass0 (pa_cons (pv 1) pa_nil)))) (pw_or1 (pt_cmpR op_ne (pe_callB call_len_seq (by rfl) T.z_len (by decide +kernel) (pa_cons (pv 1) pa_nil)) pe_int (nomark _)))).pt
      (pss_one ps_never)
      pss_nil)
    (pss_cons (ps_expr (pe_call G_require_from (hr.mono (by decide)) (by rfl) T.g_require_from T.F_require_from.kp T.b_require_from .nil pass0 (pa_cons (pv 2) (pa_cons pe_int (pa_cons (pe_glob (v := .int 40) (by rfl) T.c_MAX_DEGREE.choose_spec ⟨_, rfl⟩) pa_nil)))))
    (pss_one (ps_ret (OwnC.pe_makeV (i := 0) T.mk_Form G_Form_init (hr.mono (by decide)) T.b_Form_init rfl (by first | exact Or.inl rfl | exact Or.inr (Or.inl rfl) | exact Or.inr (Or.inr rfl)) (pa_cons (pe_make T.mk_Told G_Told_init (hr.mono (by decide)) (by rfl) T.g_Told T.b_Told_init .nil pass0 (pa_cons (pe_call G_power_in (hr.mono (by decide)) (by rfl) T.g_power_in T.F_power_in.kp T.b_power_in .nil pass0 (pa_cons (pv 1) (pa_cons (pv 2) pa_nil))) pa_nil)) pa_nil))))))), ?_⟩
    refine ⟨_, rfl, t, [u, v], rfl, ht, by show 2 ≤ 1000; decide, fun z hz => ?_, fun H1 s1 => ⟨true, rfl, iteF ⟨_, rfl, t, _, rfl, .inr (SqT.of (s1 _ _ ht)), rfl, _, rfl, iteF ⟨_, rfl, n, 0, 40, rfl, by omega, by omega, ?_⟩⟩⟩⟩
    · simp only [List.mem_cons, List.not_mem_nil, or_false] at hz
      rcases hz with e | e <;> rw [e] <;> assumption
    · have r1 := hp n (Nat.le_refl _)
      have su : ∀ z ∈ [u, v], sm z := fun z hz => by
        simp only [List.mem_cons, List.not_mem_nil, or_false] at hz
        rcases hz with e | e <;> rw [e]
        · exact Nat.lt_trans hu (by decide)
        · exact Nat.lt_trans hv (by decide)
      refine ⟨rfl, _, rfl, _, rfl, t, [u, v], n, rfl, s1 _ _ ht, by simp, by show 2 ≤ 100; decide, su, fun i hi => ⟨(hp i (by omega)).ne, (hp i (by omega)).len, (hp i (by omega)).sm⟩, by omega, fun p2 H2 s2 h2 => ?_⟩
      refine fun x dx hx hdx hne => ⟨x, dx, .ref p2, rfl, .inl ⟨upd_same, rfl⟩, rfl, ?_⟩
      have sA : Same H2 (slH (upd (upd H2 dx (.own x)) x (.ins T.C_Told dx [])) x T.C_Told dx [some (.ref p2)]) := made hx hdx hne (Same.rf _)
      have y1 : Slt (slH (upd (upd H2 dx (.own x)) x (.ins T.C_Told dx [])) x T.C_Told dx [some (.ref p2)]) x T.C_Told dx [some (.ref p2)] := slH_slt hne
      generalize slH (upd (upd H2 dx (.own x)) x (.ins T.C_Told dx [])) x T.C_Told dx [some (.ref p2)] = H3 at sA y1 ⊢
      refine fun x2 dx2 hx2 hdx2 hne2 => ⟨x2, dx2, x, p2, rfl, .inl ⟨upd_same, rfl⟩, .inl ⟨dx, ?_⟩, fun H4 s4 => ⟨rfl, ?_⟩⟩
      · exact slt_upd (slt_upd y1 hdx2) (by rw [upd_ne (Ne.symm hne2)]; exact hx2)
      · have s5 : Same H3 (slH H4 x2 T.C_Form dx2 [some (.ref p2)]) := made hx2 hdx2 hne2 s4
        refine q x2 _ ((s1.trans s2).trans (sA.trans s5)) ⟨dx2, p2, upd_same, ?_, s5 _ _ (sA _ _ h2)⟩
        unfold slH
        rw [upd_ne hne2, upd_same]
end
end K10

set_option Elab.async false
set_option linter.all false
set_option maxRecDepth 100000
set_option maxHeartbeats 4000000
namespace K10
open PySem PySem.Spec PyProof.Rows L2 StX RZ MyR SlX OwnR OwnF EnumT
theorem L_swap_list {t : Nat} {f g : List Int} (hf : t + 1 ≤ f.length) (hg : t + 1 ≤ g.length) : L t g f = (L t f g).map (sgn t * ·) :=
  ev_inj (by rw [map_len, L_len t g f hg hf, L_len t f g hf hg, Nat.add_comm g.length]) fun x y => by rw [ev_map, L_swap x y t f g hf hg, sgn_pow]
theorem L_sum_list {t : Nat} {f f' g : List Int} (h : f.length = f'.length) (hf : t + 1 ≤ f.length) (hg : t + 1 ≤ g.length) : L t (zs 1 f (f'.map (3 * ·))) g = zs 1 (L t f g) ((L t f' g).map (3 * ·)) := by
  have l1 := L_len t f g hf hg
  have l2 := L_len t f' g (by omega) hg
  have h' : f.length = (f'.map (3 * ·)).length := by rw [map_len, h]
  have h2 : (L t f g).length = ((L t f' g).map (3 * ·)).length := by rw [map_len, l1, l2, h]
  have e1 := L_len t (zs 1 f (f'.map (3 * ·))) g (by rw [zs_len h']; omega) hg
  refine ev_inj (by rw [e1, zs_len h2, l1, zs_len h']) fun x y => ?_
  rw [L_zsl 1 x y t _ _ _ h' hf hg, L_mapl 3 x y t _ _ (by omega) hg, ev_zs 1 h2, ev_map]
theorem L_changed_list {a b c e : Int} {t : Nat} {f g : List Int} (hf : t + 1 ≤ f.length) (hg : t + 1 ≤ g.length) :
    L t (changed [a, b] [c, e] f) (changed [a, b] [c, e] g) = (changed [a, b] [c, e] (L t f g)).map fun x => x * (a * e - b * c) ^ t := by
  have l1 := changed_len (X := [a, b]) (Y := [c, e]) rfl rfl (ne_of2 (show 1 ≤ f.length by omega))
  have l2 := changed_len (X := [a, b]) (Y := [c, e]) rfl rfl (ne_of2 (show 1 ≤ g.length by omega))
  have l3 := L_len t f g hf hg
  have n3 : L t f g ≠ [] := ne_of2 (by omega)
  have l4 := changed_len (X := [a, b]) (Y := [c, e]) rfl rfl n3
  rw [map_mul_comm]
  refine ev_inj (by rw [map_len, L_len t _ _ (by omega) (by omega), l1, l2, l4, l3]) fun x y => ?_
  rw [L_changed x y t f g hf hg, ev_map, ev_changed rfl rfl n3, ev2, ev2]
theorem L_pow_list {p q : Int} {n : Nat} {f : List Int} (h : f.length = n + 1) : L n f (pow [p, q] n) = [fact n * fact n * ev f q (-p)] := by
  have l1 : (pow [p, q] n).length = n + 1 := pow_len rfl n
  refine ev_inj (by rw [L_len n f _ (by omega) (by omega), l1, h]; show n + 1 + (n + 1) - 1 - 2 * n = 1; omega) fun x y => ?_
  rw [L_pow p q x y n f h, ev_cons]
  show _ = _ * x ^ 0 + y * 0
  rw [Int.pow_zero]
  grind
theorem L_bd : ∀ (t : Nat) {f g : List Int} {n m A B : Nat}, Bd f n A → Bd g m B → n ≤ 7 → m ≤ 7 → t ≤ n → t ≤ m → Bd (L t f g) (n + m - 2 * t) (2 ^ (7 * t) * (A * B))
  | 0, f, g, n, m, A, B, hf, hg, _, _, _, _ => by
    have := bd_ml hf hg
    rw [Nat.mul_zero, Nat.pow_zero, Nat.one_mul]
    exact this
  | t + 1, f, g, n, m, A, B, hf, hg, hn, hm, h1, h2 => by
    have lf := hf.len
    have lg := hg.len
    have bx : ∀ {l : List Int} {k C : Nat}, Bd l k C → k ≤ 7 → 1 ≤ k → Bd (dX l) (k - 1) (8 * C) := fun h hk h0 => ⟨by rw [dX_len, h.len]; omega, Nat.le_trans (nm_dX _) (Nat.mul_le_mul (by rw [h.len]; omega) h.nm)⟩
    have by_ : ∀ {l : List Int} {k C : Nat}, Bd l k C → k ≤ 7 → 1 ≤ k → Bd (dY l) (k - 1) (8 * C) := fun h hk h0 => ⟨by rw [dY_len, h.len]; omega, Nat.le_trans (nm_dY _) (Nat.mul_le_mul (by rw [h.len]; omega) h.nm)⟩
    have r1 := L_bd t (bx hf hn (by omega)) (by_ hg hm (by omega)) (by omega) (by omega) (by omega) (by omega)
    have r2 := L_bd t (by_ hf hn (by omega)) (bx hg hm (by omega)) (by omega) (by omega) (by omega) (by omega)
    have r3 := bd_zs' (-1) r1 r2
    rw [show n - 1 + (m - 1) - 2 * t = n + m - 2 * (t + 1) by omega] at r3
    refine r3.mono (Nat.le_of_eq ?_)
    rw [show 7 * (t + 1) = 7 * t + 7 by omega, Nat.pow_add]
    show _ + 1 * _ = _
    generalize 2 ^ (7 * t) = Z
    rw [show (2 : Nat) ^ 7 = 128 by decide]
    grind
theorem dd_nm {l : List Int} {n A i j : Nat} (h : Bd l n A) (hn : n ≤ 7) (hij : i + j ≤ n) : nm (dd i j l) ≤ 2 ^ 21 * A := by
  have hl := h.len
  refine Nat.le_trans (nm_dd i j l (by omega)) (Nat.mul_le_mul ?_ h.nm)
  exact Nat.le_trans (Nat.pow_le_pow_left (show l.length ≤ 8 by omega) _) (Nat.le_trans (Nat.pow_le_pow_right (by decide) (show i + j ≤ 7 by omega)) (by decide))
theorem ldOk_of {f g : List Int} {n m t : Nat} (hf : Bd f n (2 ^ 100)) (hg : Bd g m (2 ^ 100)) (hn : n ≤ 7) (hm : m ≤ 7) (h1 : t ≤ n) (h2 : t ≤ m) : LdOk t f g :=
  ⟨by rw [hf.len]; omega, by rw [hg.len]; omega, by rw [hf.len]; omega, by rw [hg.len]; omega, fun i j hij => Nat.le_trans (dd_nm hf hn (by omega)) (by decide), fun i j hij => Nat.le_trans (dd_nm hg hm (by omega)) (by decide)⟩
section
variable {P : Program} {w : World} {K : PySem.W.Frag} {mg : Str → Option Value} {base : Heap}
theorem ok_law_choose (T : Facts K mg) : FnOk P w K mg base CX0 1 T.f_law_choose T.fd_law_choose ["_law_many", "_law_few"] spLots := by
  refine T.F_law_choose.ok sc_law_choose (fun vs H Q E h => ?_) (fun cdv A outer s H vs Q E hr h => ?_)
  · obtain ⟨n, k, rfl, _⟩ := h
    rfl
  · obtain ⟨n, k, rfl, hk, hn, q⟩ := h
    refine ⟨_, (PSs.nox (pss_cons (ps_set (i := 2) sc_law_choose.nd rfl (.inl rfl) pe_int)
    (pss_cons (ps_for PassesOwn.never (by rfl) (pi_range1 (by rfl) T.z_range (pa_cons (pv 1) pa_nil)) (pg_name (i := 3) sc_law_choose.nd rfl (.inl rfl))
      (pss_one (ps_set (i := 2) sc_law_choose.nd rfl (.inl rfl) (pe_op op_fdivZ (pe_op op_mulW (pv 2) (pe_op op_sub (pv 0) (pv 3))) (pe_op op_add (pv 3) pe_int)))))
    (pss_one (ps_ret (pv 2)))))), ?_⟩
    refine ⟨_, rfl, k, rfl, by omega, by omega, for_range (n := (k : Int).toNat) (fun i σ H' => ∃ y3, σ = [some (.int n), some (.int k), some (.int (ch n i)), y3] ∧ H' = H) ⟨none, by rw [ch_zero]; rfl, rfl⟩ (fun i σ H' hi hP => ?_) (fun σ H' hP => ?_)⟩
    · obtain ⟨y3, rfl, rfl⟩ := hP
      have e := ch_mul n i
      have hi1 : (0 : Int) + (i : Int) + 1 ≠ 0 := by omega
      refine ⟨_, rfl, _, rfl, _, rfl, _, _, rfl, rfl, _, _, rfl, rfl, sm_mul (sm_ch hn) (Nat.lt_of_le_of_lt (show ((n : Int) - (0 + (i : Int))).natAbs ≤ 50 by omega) (Nat.lt_of_lt_of_le (show 50 < 2 ^ 7 by decide) (Nat.pow_le_pow_right (by decide) (by decide)))), _, rfl, _, _, rfl, rfl, _, _, rfl, rfl, ⟨hi1, Nat.lt_trans (PySem.Flt.log2_lt_of (k := 10) (by decide) (by show ((0 : Int) + (i : Int) + 1).natAbs < 2 ^ 10; omega)) (by decide)⟩, some (.int (0 + (i : Int))), ?_, rfl⟩
      have e2 : (((ch n i : Nat) : Int) * ((n : Int) - (0 + (i : Int)))).fdiv (0 + (i : Int) + 1) = ((ch n (i + 1) : Nat) : Int) := by
        rw [Int.zero_add, ← e, Int.mul_fdiv_cancel _ (by omega)]
      show [some (V.int n), some (V.int k), some (V.int ((((ch n i : Nat) : Int) * ((n : Int) - (0 + (i : Int)))).fdiv (0 + (i : Int) + 1))), _] = _
      rw [e2]
    · obtain ⟨y3, rfl, rfl⟩ := hP
      rw [Int.toNat_natCast]
      exact ⟨_, rfl, q⟩
def spRaised : Sp := fun vs H Q _ => ∃ (c : Int) (n : Nat), vs = [.int c, .int n] ∧ (∀ i, i ≤ n → sm (c ^ i)) ∧ sm c ∧ n ≤ 100 ∧ Q (.int (c ^ n)) H
theorem ok_law_raised (T : Facts K mg) : FnOk P w K mg base CX0 1 T.f_law_raised T.fd_law_raised ["_law_number", "_law_times"] spRaised := by
  refine T.F_law_raised.ok sc_law_raised (fun vs H Q E h => ?_) (fun cdv A outer s H vs Q E hr h => ?_)
  · obtain ⟨c, n, rfl, _⟩ := h
    rfl
  · obtain ⟨c, n, rfl, hs, hc, hn, q⟩ := h
    refine ⟨_, (PSs.nox (pss_cons (ps_set (i := 2) sc_law_raised.nd rfl (.inl rfl) pe_int)
    (pss_cons (ps_for PassesOwn.never (by rfl) (pi_range1 (by rfl) T.z_range (pa_cons (pv 1) pa_nil)) (pg_name (i := 3) sc_law_raised.nd rfl (.inl rfl))
      (pss_one (ps_set (i := 2) sc_law_raised.nd rfl (.inl rfl) (pe_op op_mulW (pv 2) (pv 0)))))
    (pss_one (ps_ret (pv 2)))))), ?_⟩
    refine ⟨_, rfl, n, rfl, by omega, by omega, for_range (n := (n : Int).toNat) (fun i σ H' => ∃ y3, σ = [some (.int c), some (.int n), some (.int (c ^ i)), y3] ∧ H' = H) ⟨none, by rw [Int.pow_zero]; rfl, rfl⟩ (fun i σ H' hi hP => ?_) (fun σ H' hP => ?_)⟩
    · obtain ⟨y3, rfl, rfl⟩ := hP
      refine ⟨_, rfl, _, rfl, _, _, rfl, rfl, sm_mul (hs i (by omega)) hc, some (.int (0 + (i : Int))), ?_, rfl⟩
      rw [Int.pow_succ]
      rfl
    · obtain ⟨y3, rfl, rfl⟩ := hP
      rw [Int.toNat_natCast]
      exact ⟨_, rfl, q⟩
theorem ok_law_laid (T : Facts K mg) : FnOk P w K mg base CX0 3 T.f_law_laid T.fd_law_laid ["_law_one", "_law_other", "_law_times"] spLaidIn := by
  have G_law_choose := ok_law_choose (P := P) (w := w) (base := base) T
  have G_law_derived := ok_law_derived (P := P) (w := w) (base := base) T
  have G_law_product := ok_law_product (P := P) (w := w) (base := base) T
  have G_law_plus := ok_law_plus (P := P) (w := w) (base := base) T
  have G_law_scaled := ok_law_scaled (P := P) (w := w) (base := base) T
  refine T.F_law_laid.ok sc_law_laid (fun vs H Q E h => ?_) (fun cdv A outer s H vs Q E hr h => ?_)
  · obtain ⟨a, b, f, g, t, rfl, _⟩ := h
    rfl
  · obtain ⟨a, b, f, g, t, rfl, ha, hb, ok, q⟩ := h
    have lf := ok.lf
    have lg := ok.lg
    have mf := ok.mf
    have mg' := ok.mg
    refine ⟨_, (PSs.nox (pss_cons (ps_set (i := 3) sc_law_laid.nd rfl (.inl rfl) (pe_tupleOf (by rfl) T.z_tuple (pe_lc (own := [("_law_place", 4)]) (g := (gName 4)) (tt := tYes) (by rfl) sc_law_laid.nd (pi_range1 (by rfl) T.z_range (pa_cons (pe_op op_sub (pe_op op_sub (pe_op op_add (pe_callB call_len_seq (by rfl) T.z_len (by decide +kernel) (pa_cons (pv 0) pa_nil)) (pe_callB call_len_seq (by rfl) T.z_len (by decide +kernel) (pa_cons (pv 1) pa_nil))) pe_int) (pe_op op_mulW pe_int (pv 2))) pa_nil)) (blkOk_by (N := N_law_laid) (sc := defScope s_law_laid) (by decide +kernel)) (fun _ _ _ _ _ => (pg_name (i := 4) sc_law_laid.nd rfl (.inl rfl))) (fun _ _ _ _ _ => pts_nil) (fun _ _ _ _ _ => pe_int))))
    (pss_cons (ps_for PassesOwn.never (by rfl) (pi_range1 (by rfl) T.z_range (pa_cons (pe_op op_add (pv 2) pe_int) pa_nil)) (pg_name (i := 5) sc_law_laid.nd rfl (.inl rfl))
      (pss_cons (ps_set (i := 6) sc_law_laid.nd rfl (.inl rfl) (pe_call G_law_product (hr.mono (by decide)) (by rfl) T.g_law_product T.F_law_product.kp T.b_law_product .nil pass0 (pa_cons (pe_call G_law_derived hr (by rfl) T.g_law_derived T.F_law_derived.kp T.b_law_derived .nil pass0 (pa_cons (pv 0) (pa_cons (pe_op op_sub (pv 2) (pv 5)) (pa_cons (pv 5) pa_nil)))) (pa_cons (pe_call G_law_derived hr (by rfl) T.g_law_derived T.F_law_derived.kp T.b_law_derived .nil pass0 (pa_cons (pv 1) (pa_cons (pv 5) (pa_cons (pe_op op_sub (pv 2) (pv 5)) pa_nil)))) pa_nil))))
      (pss_cons (ps_set (i := 7) sc_law_laid.nd rfl (.inl rfl) (pe_call G_law_choose (hr.mono (by decide)) (by rfl) T.g_law_choose T.F_law_choose.kp T.b_law_choose .nil pass0 (pa_cons (pv 2) (pa_cons (pv 5) pa_nil))))
      (pss_one (ps_set (i := 3) sc_law_laid.nd rfl (.inl rfl) (pe_call G_law_plus (hr.mono (by decide)) (by rfl) T.g_law_plus T.F_law_plus.kp T.b_law_plus .nil pass0 (pa_cons (pv 3) (pa_cons (pe_call G_law_scaled (hr.mono (by decide)) (by rfl) T.g_law_scaled T.F_law_scaled.kp T.b_law_scaled .nil pass0 (pa_cons (pv 6) (pa_cons (pe_ifExp (pt_cmpR op_eq (pe_op op_mod (pv 5) pe_int) pe_int (nomark _)) (pv 7) (pe_op op_sub pe_int (pv 7))) pa_nil))) pa_nil))))))))
    (pss_one (ps_ret (pv 3)))))), ?_⟩
    refine ⟨_, rfl, a, _, rfl, .inr (SqT.of ha), _, rfl, b, _, rfl, .inr (SqT.of hb), ?_⟩
    rw [List.length_map, List.length_map]
    refine ⟨_, _, rfl, rfl, _, _, rfl, rfl, _, rfl, _, _, rfl, rfl, sm_mul (show sm 2 by show (2 : Nat) < 2 ^ 400; exact lt400 (i := 1) (by decide) (by decide)) (sm_le (n := 100) (show ((t : Nat) : Int).natAbs ≤ 100 by omega) (by decide)), _, _, rfl, rfl, ?_⟩
    obtain ⟨N, hN⟩ : ∃ N, N = f.length + g.length - 1 - 2 * t := ⟨_, rfl⟩
    have eN : ((f.length : Int) + (g.length : Int) - 1 - 2 * (t : Int)) = (N : Int) := by omega
    dsimp only []
    rw [eN]
    refine ⟨N, rfl, by omega, by omega, fun D hD => lc_range (n := (N : Int).toNat) (fun j H' => H' = upd H D (.lst (tab j fun _ => 0))) rfl (fun j H' hj hP => ?_) (fun H' hP => ?_)⟩
    · subst hP
      refine ⟨rfl, _, upd_same, by rw [tab_len]; exact small1000 (by omega), ?_⟩
      rw [upd_upd, ← tab_snoc]
    · subst hP
      rw [Int.toNat_natCast, tab_tb]
      refine .inl ⟨D, _, rfl, SqL.of upd_same, fun p0 n0 => ?_⟩
      have sD := same_upd0 (o := .lst ((tb N fun _ => (0 : Int)).map V.int)) hD
      refine gen_upd _ p0 (tp (tb N fun _ => 0)) n0 fun H1 s1 f1 => ?_
      have s01 := sD.trans s1
      refine ⟨_, rfl, _, _, rfl, rfl, _, rfl, by omega, by omega, for_range (n := ((t : Int) + 1).toNat) (fun i σ H' => ∃ r y4 y5 y6 y7, σ = [some (.ref a), some (.ref b), some (.int t), some (.ref r), y4, y5, y6, y7] ∧ Same H H' ∧ H' r = some (tp (tb N (Lc t f g i)))) ⟨p0, none, none, none, none, rfl, s01, f1⟩ (fun i σ H' hi hP => ?_) (fun σ H' hP => ?_)⟩
      · obtain ⟨r, y4, y5, y6, y7, rfl, sH, hr2⟩ := hP
        have hi2 : i ≤ t := by omega
        have ei : (0 : Int) + (i : Int) = ((i : Nat) : Int) := by omega
        have et : (t : Int) - (0 + (i : Int)) = ((t - i : Nat) : Int) := by omega
        have l1 := dd_len (t - i) i f
        have l2 := dd_len i (t - i) g
        have of_ : DdOk (t - i) i f := ⟨by omega, by omega, fun u hu z hz => ok.smf u 0 (by omega) z hz, fun u hu z hz => ok.smf (t - i) u (by omega) z hz⟩
        have og : DdOk i (t - i) g := ⟨by omega, by omega, fun u hu z hz => ok.smg u 0 (by omega) z hz, fun u hu z hz => ok.smg i u (by omega) z hz⟩
        have n1 : dd (t - i) i f ≠ [] := ne_of2 (by omega)
        have n2 : dd i (t - i) g ≠ [] := ne_of2 (by omega)
        refine ⟨_, rfl, _, rfl, _, rfl, _, _, rfl, rfl, _, rfl, a, f, t - i, i, ?_, sH _ _ ha, of_, fun p3 H3 s3 f3 => ?_⟩
        · show [V.ref a, V.int ((t : Int) - (0 + (i : Int))), V.int (0 + (i : Int))] = _
          rw [et, ei]
        refine ⟨_, rfl, _, rfl, _, rfl, _, rfl, _, _, rfl, rfl, b, g, i, t - i, ?_, (sH.trans s3) _ _ hb, og, fun p4 H4 s4 f4 => ?_⟩
        · show [V.ref b, V.int (0 + (i : Int)), V.int ((t : Int) - (0 + (i : Int)))] = _
          rw [et, ei]
        refine ⟨p3, p4, _, _, rfl, s4 _ _ f3, f4, n1, n2, by omega, by omega, ok.smf _ _ (by omega), ok.smg _ _ (by omega), fun p5 H5 s5 _ f5 => ?_⟩
        refine ⟨_, rfl, _, rfl, t, i, by rw [ei]; rfl, hi2, by omega, ?_⟩
        have lm : (ml (dd (t - i) i f) (dd i (t - i) g)).length = N := by rw [ml_len]; omega
        have sm5 : ∀ z ∈ ml (dd (t - i) i f) (dd i (t - i) g), sm z := fun z hz => lt400 (Nat.le_trans (nm_mem hz) (Nat.le_trans (nm_ml _ _) (Nat.le_trans (Nat.mul_le_mul (ok.sf (t - i) i (by omega)) (ok.sg i (t - i) (by omega))) (Nat.le_of_eq (Nat.pow_add 2 150 150).symm)))) (by decide)
        have t5 := (s3.trans s4).trans s5
        have fin : ∀ c : Int, c = sgn i * ch t i → ∀ p6 H6, Same H5 H6 → H6 p6 = some (tp ((ml (dd (t - i) i f) (dd i (t - i) g)).map (c * ·))) → H6 r = some (tp (tb N (Lc t f g i))) ∧ (tb N (Lc t f g i)).length = ((ml (dd (t - i) i f) (dd i (t - i) g)).map (c * ·)).length ∧ zs 1 (tb N (Lc t f g i)) ((ml (dd (t - i) i f) (dd i (t - i) g)).map (c * ·)) = tb N (Lc t f g (i + 1)) := fun c hc p6 H6 s6 f6 => by
          have hlen : (tb N (Lc t f g i)).length = ((ml (dd (t - i) i f) (dd i (t - i) g)).map (c * ·)).length := by rw [tb_len, List.length_map, lm]
          refine ⟨(t5.trans s6) _ _ hr2, hlen, co_inj (by rw [zs_len hlen, tb_len, tb_len]) fun k => ?_⟩
          rw [co_zs' 1 hlen, co_map, co_tb, co_tb, hc]
          by_cases hk : k < N
          · rw [if_pos hk, if_pos hk, co_ml n2]
            show _ = Lc t f g i k + sgn i * ch t i * cv (dd (t - i) i f) (co (dd i (t - i) g)) k
            omega
          · rw [if_neg hk, if_neg hk, co_far (by rw [lm]; omega)]
            omega
        have bc : sm ((ch t i : Nat) : Int) := sm_ch (by omega)
        have bc' : sm (0 - ((ch t i : Nat) : Int)) := by
          show (0 - ((ch t i : Nat) : Int)).natAbs < _
          rw [Int.zero_sub, Int.natAbs_neg]
          exact bc
        refine ⟨_, rfl, _, rfl, _, rfl, _, _, rfl, rfl, (by show (0 : Int) < 2; decide), rfl, _, rfl, iteI (fun e => ?_) (fun e => ?_)⟩
        · have es : ((ch t i : Nat) : Int) = sgn i * ch t i := by
            unfold sgn
            rw [if_pos (by have : ((0 : Int) + (i : Int)) % 2 = 0 := e; omega), Int.one_mul]
          refine ⟨_, rfl, p5, _, _, rfl, f5, by rw [lm]; omega, sm5, bc, fun p6 H6 s6 _ f6 => ?_⟩
          obtain ⟨g1, g2, g3⟩ := fin _ es p6 H6 s6 f6
          exact ⟨r, p6, _, _, rfl, g1, f6, g2, by rw [tb_len]; omega, fun p7 H7 s7 _ f7 => ⟨p7, _, _, _, _, rfl, sH.trans ((t5.trans s6).trans s7), by rw [f7, g3]⟩⟩
        · have es : 0 - ((ch t i : Nat) : Int) = sgn i * ch t i := by
            unfold sgn
            rw [if_neg (by have : ¬ ((0 : Int) + (i : Int)) % 2 = 0 := e; omega)]
            omega
          refine ⟨_, rfl, _, _, rfl, rfl, p5, _, _, rfl, f5, by rw [lm]; omega, sm5, bc', fun p6 H6 s6 _ f6 => ?_⟩
          obtain ⟨g1, g2, g3⟩ := fin _ es p6 H6 s6 f6
          exact ⟨r, p6, _, _, rfl, g1, f6, g2, by rw [tb_len]; omega, fun p7 H7 s7 _ f7 => ⟨p7, _, _, _, _, rfl, sH.trans ((t5.trans s6).trans s7), by rw [f7, g3]⟩⟩
      · obtain ⟨r, y4, y5, y6, y7, rfl, sH, hr2⟩ := hP
        rw [show ((t : Int) + 1).toNat = t + 1 by omega, hN, L_tab ok.lf ok.lg] at hr2
        exact ⟨_, rfl, q r H' sH hr2⟩
end
end K10

set_option Elab.async false
set_option linter.all false
set_option maxRecDepth 100000
set_option maxHeartbeats 4000000
namespace K10
open PySem PySem.Spec PyProof.Rows L2 StX RZ MyR SlX OwnR OwnF EnumT
theorem two_lt {i : Nat} (h : i < 400) : 2 ^ i < 2 ^ 400 := Nat.pow_lt_pow_right (by decide) h
theorem bd2 {a b : Int} {m : Nat} (ha : a.natAbs ≤ m) (hb : b.natAbs ≤ m) : Bd [a, b] 1 (2 * m) := bd_pair ha hb
theorem pr2_of {a b : Int} {m : Nat} (ha : a.natAbs ≤ m) (hb : b.natAbs ≤ m) (hm : m < 10 ^ 60) : Pr2 [a, b] := ⟨rfl, fun x hx => by
  simp only [List.mem_cons, List.not_mem_nil, or_false] at hx
  rcases hx with e | e <;> rw [e]
  · exact Nat.lt_of_le_of_lt ha hm
  · exact Nat.lt_of_le_of_lt hb hm⟩
theorem Fo.sl {C a : Addr} {H : Hp} {ns : List Int} (h : Fo C H a ns) : Slt H a C h.slt.choose [some (.ref h.slt.choose_spec.choose)] := h.slt.choose_spec.choose_spec.1
theorem sgn_mod (i : Nat) : 1 - 2 * ((0 + (i : Int)) % 2) = sgn i := by
  unfold sgn
  split <;> omega
theorem p8 {i : Nat} (h : i ≤ 12) : 8 ^ i ≤ 2 ^ 36 := Nat.le_trans (Nat.pow_le_pow_right (by decide) h) (by decide)
theorem lb {l : List Int} {n A : Nat} (h : Bd l n A) (hA : A ≤ 2 ^ 350) (hn : n ≤ 99) : Rw l := h.rw hn (Nat.lt_of_le_of_lt hA (two_lt (by decide)))
section
variable {P : Program} {w : World} {K : PySem.W.Frag} {mg : Str → Option Value} {base : Heap}
def spLayR : Sp := fun vs H Q _ => ∃ (d t1 t2 : Addr) (l m : List Int) (n k : Nat), vs = [.ref d, .ref t1, .ref t2] ∧ Dc H d ∧ H t1 = some (tp l) ∧ H t2 = some (tp m) ∧ Bd l n (2 ^ 47) ∧ n ≤ 6 ∧ Bd m k (2 ^ 47) ∧ k ≤ 6 ∧ ∀ H', Sx d H H' → Dc H' d → Q (.bl true) H'
theorem ok_law_layings_right (T : Facts K mg) : FnOk P w K mg base CX0 9 T.f_law_layings_right T.fd_law_layings_right ["_law_dice_here", "_law_one", "_law_other"] spLayR := by
  have G_law_roll : FnOk P w K mg base CX0 1 T.f_law_roll T.fd_law_roll ["_law_dice_here", "_law_total"] spRoll2 := (ok_law_roll T).imp roll2
  have G_law_form := ok_law_form (P := P) (w := w) (base := base) T
  have G_law_table := ok_law_table (P := P) (w := w) (base := base) T
  have G_law_laid := ok_law_laid (P := P) (w := w) (base := base) T
  have G_law_plus := ok_law_plus (P := P) (w := w) (base := base) T
  have G_law_scaled := ok_law_scaled (P := P) (w := w) (base := base) T
  have G_law_raised := ok_law_raised (P := P) (w := w) (base := base) T
  have G_law_det := ok_law_det (P := P) (w := w) (base := base) T
  have G_laid := ok_laid (P := P) (w := w) (base := base) T
  have G_Form_init := ok_Form_init (P := P) (w := w) (base := base) T
  have G_Form_mul := ok_Form_mul (P := P) (w := w) (base := base) T
  have G_Form_eq := ok_Form_eq (P := P) (w := w) (base := base) T
  have G_Form_entries := ok_Form_entries (P := P) (w := w) (base := base) T
  have G_Form_changed := ok_Form_changed (P := P) (w := w) (base := base) T
  refine T.F_law_layings_right.ok sc_law_layings_right (fun vs H Q E h => ?_) (fun cdv A outer s H vs Q E hr h => ?_)
  · obtain ⟨d, t1, t2, l, m, n, k, rfl, _⟩ := h
    rfl
  · obtain ⟨d, t1, t2, l, m, n, k, rfl, hd, h1, h2, bl, hn, bm, hk, q⟩ := h
    have z2 : 2 ≤ sizeLine := by decide
    have tl : Tr l := bl.tr (by omega) (by decide)
    have tm : Tr m := bm.tr (by omega) (by decide)
    have lenl := bl.len
    have lenm := bm.len
    refine ⟨_, (PSs.nox (pss_cons (ps_par (i := 3) (j := 4) (by rfl) sc_law_layings_right.nd rfl rfl (by decide) rfl rfl (pa_cons (pe_make T.mk_Form G_Form_init (hr.mono (by decide)) (by rfl) T.g_Form T.b_Form_init .nil pass0 (pa_cons (pv 1) pa_nil)) (pa_cons (pe_make T.mk_Form G_Form_init (hr.mono (by decide)) (by rfl) T.g_Form T.b_Form_init .nil pass0 (pa_cons (pv 2) pa_nil)) pa_nil)) (by rfl))
    (pss_cons (ps_set (i := 5) sc_law_layings_right.nd rfl (.inl rfl) (pe_call G_law_form (hr.mono (by decide)) (by rfl) T.g_law_form T.F_law_form.kp T.b_law_form .nil pass0 (pa_cons (pv 0) (pa_cons (pe_op op_sub (pe_callB call_len_seq (by rfl) T.z_len (by decide +kernel) (pa_cons (pv 1) pa_nil)) pe_int) pa_nil))))
    (pss_cons (ps_set (i := 6) sc_law_layings_right.nd rfl (.inl rfl) (pe_ifExp (pt_cmpR op_gt (pe_call G_law_roll (hr.mono (by decide)) (by rfl) T.g_law_roll T.F_law_roll.kp T.b_law_roll .nil pass0 (pa_cons (pv 0) (pa_cons pe_int pa_nil))) pe_int (nomark _)) (pe_call G_law_table (hr.mono (by decide)) (by rfl) T.g_law_table T.F_law_table.kp T.b_law_table .nil pass0 (pa_cons (pv 0) (pa_cons pe_int pa_nil))) (pe_tup (pa_cons (pe_tup (pa_cons pe_int (pa_cons pe_int pa_nil))) (pa_cons (pe_tup (pa_cons (pe_un un_neg pe_int) (pa_cons (pe_un un_neg pe_int) pa_nil))) pa_nil)))))
    (pss_cons (ps_for PassesOwn.never (by rfl) (pi_range1 (by rfl) T.z_range (pa_cons (pe_callB (call_min2 (by rfl)) (by rfl) T.z_min (by decide +kernel) (pa_cons (pe_callB call_len_seq (by rfl) T.z_len (by decide +kernel) (pa_cons (pv 1) pa_nil)) (pa_cons (pe_callB call_len_seq (by rfl) T.z_len (by decide +kernel) (pa_cons (pv 2) pa_nil)) pa_nil))) pa_nil)) (pg_name (i := 7) sc_law_layings_right.nd rfl (.inl rfl))
      (pss_cons (ps_set (i := 8) sc_law_layings_right.nd rfl (.inl rfl) (pe_call G_law_laid (hr.mono (by decide)) (by rfl) T.g_law_laid T.F_law_laid.kp T.b_law_laid .nil pass0 (pa_cons (pv 1) (pa_cons (pv 2) (pa_cons (pv 7) pa_nil)))))
      (pss_cons (ps_set (i := 9) sc_law_layings_right.nd rfl (.inl rfl) (pe_call G_laid hr (by rfl) T.g_laid T.F_laid.kp T.b_laid .nil pass0 (pa_cons (pv 3) (pa_cons (pv 4) (pa_cons (pv 7) pa_nil)))))
      (pss_cons (ps_if (pt_cmpR (op_neD (hu64 hr)) (pe_prp (pv 9) T.oc_Form T.pr_Form_entries G_Form_entries T.b_Form_entries (hr.mono (by decide))) (pv 8) (nomark _))
        (pss_one (ps_ret pe_bl))
        pss_nil)
      (pss_cons (ps_if (pt_cmpR (op_neD (hu64 hr)) (pe_prp (pe_call G_laid hr (by rfl) T.g_laid T.F_laid.kp T.b_laid .nil pass0 (pa_cons (pv 4) (pa_cons (pv 3) (pa_cons (pv 7) pa_nil)))) T.oc_Form T.pr_Form_entries G_Form_entries T.b_Form_entries (hr.mono (by decide))) (pe_call G_law_scaled (hr.mono (by decide)) (by rfl) T.g_law_scaled T.F_law_scaled.kp T.b_law_scaled .nil pass0 (pa_cons (pv 8) (pa_cons (pe_op op_sub pe_int (pe_op op_mulW pe_int (pe_op op_mod (pv 7) pe_int))) pa_nil))) (nomark _))
        (pss_one (ps_ret pe_bl))
        pss_nil)
      (pss_cons (ps_set (i := 10) sc_law_layings_right.nd rfl (.inl rfl) (pe_call G_law_plus (hr.mono (by decide)) (by rfl) T.g_law_plus T.F_law_plus.kp T.b_law_plus .nil pass0 (pa_cons (pv 8) (pa_cons (pe_call G_law_scaled (hr.mono (by decide)) (by rfl) T.g_law_scaled T.F_law_scaled.kp T.b_law_scaled .nil pass0 (pa_cons (pe_call G_law_laid (hr.mono (by decide)) (by rfl) T.g_law_laid T.F_law_laid.kp T.b_law_laid .nil pass0 (pa_cons (pv 5) (pa_cons (pv 2) (pa_cons (pv 7) pa_nil)))) (pa_cons pe_int pa_nil))) pa_nil))))
      (pss_cons (ps_if (pt_cmpR (op_neD (hu64 hr)) (pe_prp (pe_call G_laid hr (by rfl) T.g_laid T.F_laid.kp T.b_laid .nil pass0 (pa_cons (pe_make T.mk_Form G_Form_init (hr.mono (by decide)) (by rfl) T.g_Form T.b_Form_init .nil pass0 (pa_cons (pe_call G_law_plus (hr.mono (by decide)) (by rfl) T.g_law_plus T.F_law_plus.kp T.b_law_plus .nil pass0 (pa_cons (pv 1) (pa_cons (pe_call G_law_scaled (hr.mono (by decide)) (by rfl) T.g_law_scaled T.F_law_scaled.kp T.b_law_scaled .nil pass0 (pa_cons (pv 5) (pa_cons pe_int pa_nil))) pa_nil))) pa_nil)) (pa_cons (pv 4) (pa_cons (pv 7) pa_nil)))) T.oc_Form T.pr_Form_entries G_Form_entries T.b_Form_entries (hr.mono (by decide))) (pv 10) (nomark _))
        (pss_one (ps_ret pe_bl))
        pss_nil)
      (pss_cons (ps_set (i := 11) sc_law_layings_right.nd rfl (.inl rfl) (pe_call G_law_raised (hr.mono (by decide)) (by rfl) T.g_law_raised T.F_law_raised.kp T.b_law_raised .nil pass0 (pa_cons (pe_call G_law_det (hr.mono (by decide)) (by rfl) T.g_law_det T.F_law_det.kp T.b_law_det .nil pass0 (pa_cons (pv 6) pa_nil)) (pa_cons (pv 7) pa_nil))))
      (pss_one (ps_if (pt_cmpR (op_neF T.oc_Form T.mt_Form_eq G_Form_eq T.b_Form_eq (hr.mono (by decide))) (pe_call G_laid hr (by rfl) T.g_laid T.F_laid.kp T.b_laid .nil pass0 (pa_cons (pe_mSl (pv 3) T.oc_Form T.mt_Form_changed T.F_Form_changed.kp G_Form_changed T.b_Form_changed hr (pa_cons (pv 6) pa_nil)) (pa_cons (pe_mSl (pv 4) T.oc_Form T.mt_Form_changed T.F_Form_changed.kp G_Form_changed T.b_Form_changed hr (pa_cons (pv 6) pa_nil)) (pa_cons (pv 7) pa_nil)))) (pe_op (op_mulOI T.oc_Form T.mt_Form_mul G_Form_mul T.b_Form_mul (hr.mono (by decide))) (pe_mSl (pv 9) T.oc_Form T.mt_Form_changed T.F_Form_changed.kp G_Form_changed T.b_Form_changed hr (pa_cons (pv 6) pa_nil)) (pv 11)) (nomark _))
        (pss_one (ps_ret pe_bl))
        pss_nil))))))))))
    (pss_one (ps_ret pe_bl))))))), ?_⟩
    refine ⟨_, rfl, fun a1 dx1 x1 x2 x3 => mkF x1 x2 x3 h1 tl.pos (by omega) tl.sho fun H1 s1 f1 => ⟨_, rfl, fun a2 dx2 x1 x2 x3 => mkF x1 x2 x3 (s1 _ _ h2) tm.pos (by omega) tm.sho fun H2 s2 f2 => ⟨_, _, rfl, ?_⟩⟩⟩
    have s02 := s1.trans s2
    refine ⟨_, rfl, _, rfl, t1, _, rfl, .inr (SqT.of (s02 _ _ h1)), ?_⟩
    rw [List.length_map]
    refine ⟨_, _, rfl, rfl, d, n, ?_, hd.same s02, by omega, fun t3 H3 o s3 d3 h3 bo => ?_⟩
    · show [V.ref d, V.int ((l.length : Int) - 1)] = _
      rw [show (l.length : Int) - 1 = (n : Int) by omega]
    have d2 := hd.same s02
    have bo : Bd o n (2 ^ 47) := bo.mono (by decide)
    refine ⟨_, rfl, d, 4, rfl, d3, by decide, Nat.lt_trans (PySem.Flt.log2_lt_of (k := 10) (by decide) (by decide)) (by decide), fun rr H4 hk4 s4 d4 => ⟨_, _, rfl, rfl, _, rfl, ite2 (fun _ => ⟨_, rfl, d, 3, rfl, d4, by decide, by decide, fun p5 H5 a b c e s5 d5 tb ha hb hc he _ => ?_⟩) (fun _ => ?_)⟩⟩
    rotate_left
    · refine ⟨z2, fun q1 m1 => gen_upd H4 q1 (tp [2, 4]) m1 fun J1 u1 g1 => ⟨_, rfl, _, rfl, z2, fun q2 m2 => gen_upd J1 q2 (tp [-1, -2]) m2 fun J2 u2 g2 => ⟨z2, fun p5 m3 => gen_upd J2 p5 (.tup [.ref q1, .ref q2]) m3 fun H5 u3 g3 => ?_⟩⟩⟩
      obtain ⟨a, b, c, e, tb, ha, hb, hc, he⟩ : ∃ a b c e, Tb H5 p5 [a, b] [c, e] ∧ a.natAbs ≤ 4 ∧ b.natAbs ≤ 4 ∧ c.natAbs ≤ 4 ∧ e.natAbs ≤ 4 := ⟨2, 4, -1, -2, ⟨q1, q2, g3, (u2.trans u3) _ _ g1, u3 _ _ g2⟩, by decide, by decide, by decide, by decide⟩
      have d5 := d4.same ((u1.trans u2).trans u3)
      have s5 : Sx d H4 H5 := Sx.of ((u1.trans u2).trans u3)
      clear g1 g2 g3 u1 u2 u3 m1 m2 m3
      have sA : Sx d H2 H5 := (s3.trans s4).trans s5
      have K1 : H5 t1 = some (tp l) := sA _ _ (dc_ne d2 (s02 _ _ h1)) (s02 _ _ h1)
      have K2 : H5 t2 = some (tp m) := sA _ _ (dc_ne d2 (s02 _ _ h2)) (s02 _ _ h2)
      have K3 : H5 t3 = some (tp o) := (s4.trans s5) _ _ (dc_ne d3 h3) h3
      have F1 : Fo T.C_Form H5 a1 l := (f1.same s2).sx d2 sA
      have F2 : Fo T.C_Form H5 a2 m := f2.sx d2 sA
      have leno := bo.len
      have bX : Bd [a, b] 1 8 := bd2 ha hb
      have bY : Bd [c, e] 1 8 := bd2 hc he
      have pX := pr2_of ha hb (by decide)
      have pY := pr2_of hc he (by decide)
      have b100 : ∀ {f : List Int} {i : Nat}, Bd f i (2 ^ 47) → Bd f i (2 ^ 100) := fun h => h.mono (by decide)
      have fin := q
      refine ⟨_, rfl, t1, _, rfl, .inr (SqT.of K1), _, rfl, t2, _, rfl, .inr (SqT.of K2), ?_⟩
      rw [List.length_map, List.length_map]
      refine ⟨_, _, rfl, ?_⟩
      obtain ⟨mn, hmn, hm1, hm2, hm3⟩ : ∃ mn : Int, (if (m.length : Int) < (l.length : Int) then (m.length : Int) else (l.length : Int)) = mn ∧ mn ≤ (n : Int) + 1 ∧ mn ≤ (k : Int) + 1 ∧ 0 ≤ mn := ⟨_, rfl, by split <;> omega, by split <;> omega, by split <;> omega⟩
      rw [hmn]
      refine ⟨_, rfl, by omega, by omega, for_range (n := mn.toNat) (fun i σ H' => ∃ y7 y8 y9 y10 y11, σ = [some (.ref d), some (.ref t1), some (.ref t2), some (.ref a1), some (.ref a2), some (.ref t3), some (.ref p5), y7, y8, y9, y10, y11] ∧ Same H5 H') ⟨none, none, none, none, none, rfl, Same.rf H5⟩ (fun i σ H' hi hP => ?_) (fun σ H' hP => ?_)⟩
      · obtain ⟨y7, y8, y9, y10, y11, rfl, sH⟩ := hP
        have hi1 : i ≤ n := by omega
        have hi2 : i ≤ k := by omega
        have ez : (0 : Int) + (i : Int) = (i : Int) := Int.zero_add _
        have ld := ldOk_of (b100 bl) (b100 bm) (by omega) (by omega) hi1 hi2
        have ld' := ldOk_of (b100 bm) (b100 bl) (by omega) (by omega) hi2 hi1
        have lo := ldOk_of (b100 bo) (b100 bm) (by omega) (by omega) hi1 hi2
        have bL := (L_bd i bl bm (by omega) (by omega) hi1 hi2).mono (show _ ≤ 2 ^ 136 from Nat.le_trans (Nat.mul_le_mul (Nat.pow_le_pow_right (by decide) (show 7 * i ≤ 42 by omega)) (Nat.le_refl _)) (by decide))
        have bLo := (L_bd i bo bm (by omega) (by omega) hi1 hi2).mono (show _ ≤ 2 ^ 136 from Nat.le_trans (Nat.mul_le_mul (Nat.pow_le_pow_right (by decide) (show 7 * i ≤ 42 by omega)) (Nat.le_refl _)) (by decide))
        have rL := lb bL (Nat.pow_le_pow_right (by decide) (by decide)) (by omega)
        have rLo := lb bLo (Nat.pow_le_pow_right (by decide) (by decide)) (by omega)
        have lenL := bL.len
        have lenLo := bLo.len
        refine ⟨_, rfl, _, rfl, _, rfl, t1, t2, l, m, i, by rw [ez]; rfl, sH _ _ K1, sH _ _ K2, ld, fun u1 J1 v1 k1 => ?_⟩
        have w1 := sH.trans v1
        refine ⟨_, rfl, _, rfl, _, rfl, a1, a2, l, m, i, by rw [ez]; rfl, F1.same w1, F2.same w1, ld, by omega, fun u2 J2 v2 g2 => ?_⟩
        have w2 := w1.trans v2
        refine ⟨_, rfl, prop_ent g2 fun u3 k3 => ⟨_, rfl, ne_ints (SqT.of k3) (SqT.of (v2 _ _ k1)) ?_⟩⟩
        rw [decide_eq_true rfl]
        refine ⟨_, rfl, iteF ?_⟩
        refine ⟨_, rfl, _, rfl, _, rfl, a2, a1, m, l, i, by rw [ez]; rfl, F2.same w2, F1.same w2, ld', by omega, fun u4 J4 v4 g4 => prop_ent g4 fun u5 k5 => ?_⟩
        have w4 := w2.trans v4
        refine ⟨_, rfl, _, rfl, _, _, rfl, rfl, (by show (0 : Int) < 2; decide), _, _, rfl, rfl, sm_mul (show sm 2 from lt400 (i := 1) (by decide) (by decide)) (sm_le (n := 2) (show ((0 + (i : Int)) % 2).natAbs ≤ 2 by omega) (by decide)), _, _, rfl, rfl, ?_⟩
        dsimp only []
        rw [sgn_mod i]
        refine ⟨u1, _, sgn i, rfl, (v2.trans v4) _ _ k1, rL.len, rL.sm, sm_le (n := 1) (by rw [sgn_abs]; exact Nat.le_refl 1) (by decide), fun u6 J6 v6 _ k6 => ne_ints (SqT.of (v6 _ _ k5)) (SqT.of k6) ?_⟩
        rw [decide_eq_true (L_swap_list ld.lf ld.lg)]
        have w6 := w4.trans v6
        refine ⟨_, rfl, iteF ?_⟩
        refine ⟨_, rfl, _, rfl, _, rfl, _, rfl, t3, t2, o, m, i, by rw [ez]; rfl, w6 _ _ K3, w6 _ _ K2, lo, fun u7 J7 v7 k7 => ?_⟩
        refine ⟨u7, _, 3, rfl, k7, rLo.len, rLo.sm, sm_le (n := 3) (by decide) (by decide), fun u8 J8 v8 _ k8 => ?_⟩
        refine ⟨u1, u8, _, _, rfl, (v2.trans (v4.trans (v6.trans (v7.trans v8)))) _ _ k1, k8, by rw [List.length_map, lenL, lenLo], by omega, fun u9 J9 v9 _ k9 => ?_⟩
        have w9 := w6.trans ((v7.trans v8).trans v9)
        have b3 := bd_scale (c := 3) (d := 3) bo (by decide)
        have bs := (bd_zs bl b3)
        have ts : Tr (zs 1 l (o.map fun x => 3 * x)) := bs.tr (by omega) (by decide)
        have ro := lb bo (Nat.pow_le_pow_right (by decide) (by decide)) (by omega)
        have lens := bs.len
        refine ⟨_, rfl, _, rfl, t3, o, 3, rfl, w9 _ _ K3, ro.len, ro.sm, sm_le (n := 3) (by decide) (by decide), fun u10 J10 v10 _ k10 => ?_⟩
        refine ⟨t1, u10, _, _, rfl, (w9.trans v10) _ _ K1, k10, by rw [List.length_map, lenl, leno], by omega, fun u11 J11 v11 _ k11 => ?_⟩
        have w11 := w9.trans (v10.trans v11)
        refine fun a6 dx6 x1 x2 x3 => mkF x1 x2 x3 k11 ts.pos (by omega) ts.sho fun J12 v12 g12 => ?_
        have w12 := w11.trans v12
        have lds := ldOk_of (bs.mono (show 2 ^ 47 + 3 * 2 ^ 47 ≤ 2 ^ 100 by decide)) (b100 bm) (by omega) (by omega) hi1 hi2
        refine ⟨_, rfl, _, rfl, a6, a2, _, m, i, by rw [ez]; rfl, g12, F2.same w12, lds, by omega, fun u13 J13 v13 g13 => prop_ent g13 fun u14 k14 => ⟨_, rfl, ne_ints (SqT.of k14) (SqT.of ((v10.trans (v11.trans (v12.trans v13))) _ _ k9)) ?_⟩⟩
        rw [decide_eq_true (L_sum_list (by omega) ld.lf ld.lg)]
        have w13 := w12.trans v13
        refine ⟨_, rfl, iteF ?_⟩
        have hdet : (a * e - b * c).natAbs ≤ 32 := by
          have e1 : (a * e).natAbs ≤ 4 * 4 := by rw [Int.natAbs_mul]; exact Nat.mul_le_mul ha he
          have e2 : (b * c).natAbs ≤ 4 * 4 := by rw [Int.natAbs_mul]; exact Nat.mul_le_mul hb hc
          omega
        have hdp : ∀ j, j ≤ 6 → ((a * e - b * c) ^ j).natAbs ≤ 2 ^ 30 := fun j hj => by
          rw [Int.natAbs_pow]
          exact Nat.le_trans (Nat.pow_le_pow_left hdet j) (Nat.le_trans (Nat.pow_le_pow_right (by decide) hj) (by decide))
        refine ⟨_, rfl, p5, a, b, c, e, rfl, tb.same w13, by omega, by omega, by omega, by omega, ?_⟩
        refine ⟨_, rfl, a * e - b * c, i, by rw [ez]; rfl, fun j hj => lt400 (hdp j (by omega)) (by decide), sm_le (n := 32) hdet (by decide), by omega, ?_⟩
        have cb : ∀ {f : List Int} {j : Nat}, Bd f j (2 ^ 47) → j ≤ 6 → Bd (changed [a, b] [c, e] f) j (2 ^ 100) := fun h hj => (changed_bd bX bY h).mono (Nat.le_trans (Nat.mul_le_mul (Nat.le_refl _) (p8 (by omega))) (by decide))
        have cok : ∀ {f : List Int} {j A : Nat}, Bd f j A → A ≤ 2 ^ 136 → j ≤ 12 → ChOk [a, b] [c, e] f.tail [co f 0] [1] := fun h hA hj => changed_ok (by decide) bX bY h (by omega) (Nat.lt_of_le_of_lt (Nat.mul_le_mul (Nat.succ_le_succ hA) (p8 hj)) (Nat.lt_of_le_of_lt (show (2 ^ 136 + 1) * 2 ^ 36 ≤ 2 ^ 173 by decide) (two_lt (by decide))))
        have c1 := cb bl hn
        have c2 := cb bm hk
        have lc1 := c1.len
        have lc2 := c2.len
        have ldc := ldOk_of c1 c2 (by omega) (by omega) hi1 hi2
        refine ⟨_, rfl, a1, _, _, rfl, (F1.same w13).sl, _, rfl, a1, p5, l, _, _, rfl, F1.same w13, tb.same w13, tl.ne, by omega, pX, pY, cok bl (by decide) (by omega), fun u15 J15 v15 g15 => ?_⟩
        have w15 := w13.trans v15
        refine ⟨_, rfl, a2, _, _, rfl, (F2.same w15).sl, _, rfl, a2, p5, m, _, _, rfl, F2.same w15, tb.same w15, tm.ne, by omega, pX, pY, cok bm (by decide) (by omega), fun u16 J16 v16 g16 => ?_⟩
        have w16 := w15.trans v16
        refine ⟨_, rfl, u15, u16, _, _, i, by rw [ez]; rfl, g15.same v16, g16, ldc, by omega, fun u17 J17 v17 g17 => ?_⟩
        have w17 := w16.trans v17
        have g2' : Fo T.C_Form J17 u2 (L i l m) := g2.same (v4.trans (v6.trans ((v7.trans (v8.trans v9)).trans ((v10.trans (v11.trans v12)).trans (v13.trans (v15.trans (v16.trans v17)))))))
        refine ⟨_, rfl, u2, _, _, rfl, g2'.sl, _, rfl, u2, p5, _, _, _, rfl, g2', tb.same w17, bL.ne, by omega, pX, pY, cok bL (Nat.le_refl _) (by omega), fun u18 J18 v18 g18 => ?_⟩
        have bcl : Bd (changed [a, b] [c, e] (L i l m)) (n + k - 2 * i) (2 ^ 172) := (changed_bd bX bY bL).mono (Nat.le_trans (Nat.mul_le_mul (Nat.le_refl _) (p8 (by omega))) (by decide))
        refine ⟨_, rfl, mulI_form g18 (lb bcl (Nat.pow_le_pow_right (by decide) (by decide)) (by omega)) (Nat.lt_of_le_of_lt (hdp i (by omega)) (by decide)) fun u19 J19 v19 g19 => ne_forms T.oc_Form (g17.same (v18.trans v19)) g19 ?_⟩
        rw [decide_eq_true (L_changed_list ld.lf ld.lg)]
        exact ⟨_, rfl, iteF ⟨_, _, _, _, _, rfl, w17.trans (v18.trans v19)⟩⟩
      · obtain ⟨y7, y8, y9, y10, y11, rfl, sH⟩ := hP
        exact fin H' ((Sx.of s02).trans (sA.trans (Sx.of sH))) (d5.same sH)
    · have ha : a.natAbs ≤ 4 := by omega
      have hb : b.natAbs ≤ 4 := by omega
      have hc : c.natAbs ≤ 4 := by omega
      have he : e.natAbs ≤ 4 := by omega
      have sA : Sx d H2 H5 := (s3.trans s4).trans s5
      have K1 : H5 t1 = some (tp l) := sA _ _ (dc_ne d2 (s02 _ _ h1)) (s02 _ _ h1)
      have K2 : H5 t2 = some (tp m) := sA _ _ (dc_ne d2 (s02 _ _ h2)) (s02 _ _ h2)
      have K3 : H5 t3 = some (tp o) := (s4.trans s5) _ _ (dc_ne d3 h3) h3
      have F1 : Fo T.C_Form H5 a1 l := (f1.same s2).sx d2 sA
      have F2 : Fo T.C_Form H5 a2 m := f2.sx d2 sA
      have leno := bo.len
      have bX : Bd [a, b] 1 8 := bd2 ha hb
      have bY : Bd [c, e] 1 8 := bd2 hc he
      have pX := pr2_of ha hb (by decide)
      have pY := pr2_of hc he (by decide)
      have b100 : ∀ {f : List Int} {i : Nat}, Bd f i (2 ^ 47) → Bd f i (2 ^ 100) := fun h => h.mono (by decide)
      have fin := q
      refine ⟨_, rfl, t1, _, rfl, .inr (SqT.of K1), _, rfl, t2, _, rfl, .inr (SqT.of K2), ?_⟩
      rw [List.length_map, List.length_map]
      refine ⟨_, _, rfl, ?_⟩
      obtain ⟨mn, hmn, hm1, hm2, hm3⟩ : ∃ mn : Int, (if (m.length : Int) < (l.length : Int) then (m.length : Int) else (l.length : Int)) = mn ∧ mn ≤ (n : Int) + 1 ∧ mn ≤ (k : Int) + 1 ∧ 0 ≤ mn := ⟨_, rfl, by split <;> omega, by split <;> omega, by split <;> omega⟩
      rw [hmn]
      refine ⟨_, rfl, by omega, by omega, for_range (n := mn.toNat) (fun i σ H' => ∃ y7 y8 y9 y10 y11, σ = [some (.ref d), some (.ref t1), some (.ref t2), some (.ref a1), some (.ref a2), some (.ref t3), some (.ref p5), y7, y8, y9, y10, y11] ∧ Same H5 H') ⟨none, none, none, none, none, rfl, Same.rf H5⟩ (fun i σ H' hi hP => ?_) (fun σ H' hP => ?_)⟩
      · obtain ⟨y7, y8, y9, y10, y11, rfl, sH⟩ := hP
        have hi1 : i ≤ n := by omega
        have hi2 : i ≤ k := by omega
        have ez : (0 : Int) + (i : Int) = (i : Int) := Int.zero_add _
        have ld := ldOk_of (b100 bl) (b100 bm) (by omega) (by omega) hi1 hi2
        have ld' := ldOk_of (b100 bm) (b100 bl) (by omega) (by omega) hi2 hi1
        have lo := ldOk_of (b100 bo) (b100 bm) (by omega) (by omega) hi1 hi2
        have bL := (L_bd i bl bm (by omega) (by omega) hi1 hi2).mono (show _ ≤ 2 ^ 136 from Nat.le_trans (Nat.mul_le_mul (Nat.pow_le_pow_right (by decide) (show 7 * i ≤ 42 by omega)) (Nat.le_refl _)) (by decide))
        have bLo := (L_bd i bo bm (by omega) (by omega) hi1 hi2).mono (show _ ≤ 2 ^ 136 from Nat.le_trans (Nat.mul_le_mul (Nat.pow_le_pow_right (by decide) (show 7 * i ≤ 42 by omega)) (Nat.le_refl _)) (by decide))
        have rL := lb bL (Nat.pow_le_pow_right (by decide) (by decide)) (by omega)
        have rLo := lb bLo (Nat.pow_le_pow_right (by decide) (by decide)) (by omega)
        have lenL := bL.len
        have lenLo := bLo.len
        refine ⟨_, rfl, _, rfl, _, rfl, t1, t2, l, m, i, by rw [ez]; rfl, sH _ _ K1, sH _ _ K2, ld, fun u1 J1 v1 k1 => ?_⟩
        have w1 := sH.trans v1
        refine ⟨_, rfl, _, rfl, _, rfl, a1, a2, l, m, i, by rw [ez]; rfl, F1.same w1, F2.same w1, ld, by omega, fun u2 J2 v2 g2 => ?_⟩
        have w2 := w1.trans v2
        refine ⟨_, rfl, prop_ent g2 fun u3 k3 => ⟨_, rfl, ne_ints (SqT.of k3) (SqT.of (v2 _ _ k1)) ?_⟩⟩
        rw [decide_eq_true rfl]
        refine ⟨_, rfl, iteF ?_⟩
        refine ⟨_, rfl, _, rfl, _, rfl, a2, a1, m, l, i, by rw [ez]; rfl, F2.same w2, F1.same w2, ld', by omega, fun u4 J4 v4 g4 => prop_ent g4 fun u5 k5 => ?_⟩
        have w4 := w2.trans v4
        refine ⟨_, rfl, _, rfl, _, _, rfl, rfl, (by show (0 : Int) < 2; decide), _, _, rfl, rfl, sm_mul (show sm 2 from lt400 (i := 1) (by decide) (by decide)) (sm_le (n := 2) (show ((0 + (i : Int)) % 2).natAbs ≤ 2 by omega) (by decide)), _, _, rfl, rfl, ?_⟩
        dsimp only []
        rw [sgn_mod i]
        refine ⟨u1, _, sgn i, rfl, (v2.trans v4) _ _ k1, rL.len, rL.sm, sm_le (n := 1) (by rw [sgn_abs]; exact Nat.le_refl 1) (by decide), fun u6 J6 v6 _ k6 => ne_ints (SqT.of (v6 _ _ k5)) (SqT.of k6) ?_⟩
        rw [decide_eq_true (L_swap_list ld.lf ld.lg)]
        have w6 := w4.trans v6
        refine ⟨_, rfl, iteF ?_⟩
        refine ⟨_, rfl, _, rfl, _, rfl, _, rfl, t3, t2, o, m, i, by rw [ez]; rfl, w6 _ _ K3, w6 _ _ K2, lo, fun u7 J7 v7 k7 => ?_⟩
        refine ⟨u7, _, 3, rfl, k7, rLo.len, rLo.sm, sm_le (n := 3) (by decide) (by decide), fun u8 J8 v8 _ k8 => ?_⟩
        refine ⟨u1, u8, _, _, rfl, (v2.trans (v4.trans (v6.trans (v7.trans v8)))) _ _ k1, k8, by rw [List.length_map, lenL, lenLo], by omega, fun u9 J9 v9 _ k9 => ?_⟩
        have w9 := w6.trans ((v7.trans v8).trans v9)
        have b3 := bd_scale (c := 3) (d := 3) bo (by decide)
        have bs := (bd_zs bl b3)
        have ts : Tr (zs 1 l (o.map fun x => 3 * x)) := bs.tr (by omega) (by decide)
        have ro := lb bo (Nat.pow_le_pow_right (by decide) (by decide)) (by omega)
        have lens := bs.len
        refine ⟨_, rfl, _, rfl, t3, o, 3, rfl, w9 _ _ K3, ro.len, ro.sm, sm_le (n := 3) (by decide) (by decide), fun u10 J10 v10 _ k10 => ?_⟩
        refine ⟨t1, u10, _, _, rfl, (w9.trans v10) _ _ K1, k10, by rw [List.length_map, lenl, leno], by omega, fun u11 J11 v11 _ k11 => ?_⟩
        have w11 := w9.trans (v10.trans v11)
        refine fun a6 dx6 x1 x2 x3 => mkF x1 x2 x3 k11 ts.pos (by omega) ts.sho fun J12 v12 g12 => ?_
        have w12 := w11.trans v12
        have lds := ldOk_of (bs.mono (show 2 ^ 47 + 3 * 2 ^ 47 ≤ 2 ^ 100 by decide)) (b100 bm) (by omega) (by omega) hi1 hi2
        refine ⟨_, rfl, _, rfl, a6, a2, _, m, i, by rw [ez]; rfl, g12, F2.same w12, lds, by omega, fun u13 J13 v13 g13 => prop_ent g13 fun u14 k14 => ⟨_, rfl, ne_ints (SqT.of k14) (SqT.of ((v10.trans (v11.trans (v12.trans v13))) _ _ k9)) ?_⟩⟩
        rw [decide_eq_true (L_sum_list (by omega) ld.lf ld.lg)]
        have w13 := w12.trans v13
        refine ⟨_, rfl, iteF ?_⟩
        have hdet : (a * e - b * c).natAbs ≤ 32 := by
          have e1 : (a * e).natAbs ≤ 4 * 4 := by rw [Int.natAbs_mul]; exact Nat.mul_le_mul ha he
          have e2 : (b * c).natAbs ≤ 4 * 4 := by rw [Int.natAbs_mul]; exact Nat.mul_le_mul hb hc
          omega
        have hdp : ∀ j, j ≤ 6 → ((a * e - b * c) ^ j).natAbs ≤ 2 ^ 30 := fun j hj => by
          rw [Int.natAbs_pow]
          exact Nat.le_trans (Nat.pow_le_pow_left hdet j) (Nat.le_trans (Nat.pow_le_pow_right (by decide) hj) (by decide))
        refine ⟨_, rfl, p5, a, b, c, e, rfl, tb.same w13, by omega, by omega, by omega, by omega, ?_⟩
        refine ⟨_, rfl, a * e - b * c, i, by rw [ez]; rfl, fun j hj => lt400 (hdp j (by omega)) (by decide), sm_le (n := 32) hdet (by decide), by omega, ?_⟩
        have cb : ∀ {f : List Int} {j : Nat}, Bd f j (2 ^ 47) → j ≤ 6 → Bd (changed [a, b] [c, e] f) j (2 ^ 100) := fun h hj => (changed_bd bX bY h).mono (Nat.le_trans (Nat.mul_le_mul (Nat.le_refl _) (p8 (by omega))) (by decide))
        have cok : ∀ {f : List Int} {j A : Nat}, Bd f j A → A ≤ 2 ^ 136 → j ≤ 12 → ChOk [a, b] [c, e] f.tail [co f 0] [1] := fun h hA hj => changed_ok (by decide) bX bY h (by omega) (Nat.lt_of_le_of_lt (Nat.mul_le_mul (Nat.succ_le_succ hA) (p8 hj)) (Nat.lt_of_le_of_lt (show (2 ^ 136 + 1) * 2 ^ 36 ≤ 2 ^ 173 by decide) (two_lt (by decide))))
        have c1 := cb bl hn
        have c2 := cb bm hk
        have lc1 := c1.len
        have lc2 := c2.len
        have ldc := ldOk_of c1 c2 (by omega) (by omega) hi1 hi2
        refine ⟨_, rfl, a1, _, _, rfl, (F1.same w13).sl, _, rfl, a1, p5, l, _, _, rfl, F1.same w13, tb.same w13, tl.ne, by omega, pX, pY, cok bl (by decide) (by omega), fun u15 J15 v15 g15 => ?_⟩
        have w15 := w13.trans v15
        refine ⟨_, rfl, a2, _, _, rfl, (F2.same w15).sl, _, rfl, a2, p5, m, _, _, rfl, F2.same w15, tb.same w15, tm.ne, by omega, pX, pY, cok bm (by decide) (by omega), fun u16 J16 v16 g16 => ?_⟩
        have w16 := w15.trans v16
        refine ⟨_, rfl, u15, u16, _, _, i, by rw [ez]; rfl, g15.same v16, g16, ldc, by omega, fun u17 J17 v17 g17 => ?_⟩
        have w17 := w16.trans v17
        have g2' : Fo T.C_Form J17 u2 (L i l m) := g2.same (v4.trans (v6.trans ((v7.trans (v8.trans v9)).trans ((v10.trans (v11.trans v12)).trans (v13.trans (v15.trans (v16.trans v17)))))))
        refine ⟨_, rfl, u2, _, _, rfl, g2'.sl, _, rfl, u2, p5, _, _, _, rfl, g2', tb.same w17, bL.ne, by omega, pX, pY, cok bL (Nat.le_refl _) (by omega), fun u18 J18 v18 g18 => ?_⟩
        have bcl : Bd (changed [a, b] [c, e] (L i l m)) (n + k - 2 * i) (2 ^ 172) := (changed_bd bX bY bL).mono (Nat.le_trans (Nat.mul_le_mul (Nat.le_refl _) (p8 (by omega))) (by decide))
        refine ⟨_, rfl, mulI_form g18 (lb bcl (Nat.pow_le_pow_right (by decide) (by decide)) (by omega)) (Nat.lt_of_le_of_lt (hdp i (by omega)) (by decide)) fun u19 J19 v19 g19 => ne_forms T.oc_Form (g17.same (v18.trans v19)) g19 ?_⟩
        rw [decide_eq_true (L_changed_list ld.lf ld.lg)]
        exact ⟨_, rfl, iteF ⟨_, _, _, _, _, rfl, w17.trans (v18.trans v19)⟩⟩
      · obtain ⟨y7, y8, y9, y10, y11, rfl, sH⟩ := hP
        exact fin H' ((Sx.of s02).trans (sA.trans (Sx.of sH))) (d5.same sH)
end
end K10

set_option Elab.async false
set_option linter.all false
set_option maxRecDepth 100000
set_option maxHeartbeats 4000000
namespace K10
open PySem PySem.Spec PyProof.Rows L2 StX RZ MyR SlX OwnR OwnF EnumT
theorem any_zero {l : List Int} (h : ∀ x y, ev l x y = 0) : (!l.any (· != 0)) = true := by
  have hz := zero_of_ev h
  rw [show l.any (· != 0) = false from List.any_eq_false.mpr fun z hzm => by rw [hz z hzm]; decide]
  rfl
section
variable {P : Program} {w : World} {K : PySem.W.Frag} {mg : Str → Option Value} {base : Heap}
def spRuleR : Sp := fun vs H Q _ => ∃ (t1 t2 t3 : Addr) (l m o : List Int) (n k j : Nat), vs = [.ref t1, .ref t2, .ref t3] ∧ H t1 = some (tp l) ∧ H t2 = some (tp m) ∧ H t3 = some (tp o) ∧ Bd l n (2 ^ 47) ∧ Bd m k (2 ^ 47) ∧ Bd o j (2 ^ 47) ∧ (1 ≤ n ∧ n ≤ 6) ∧ (1 ≤ k ∧ k ≤ 6) ∧ (1 ≤ j ∧ j ≤ 6) ∧ ∀ H', Same H H' → Q (.bl true) H'
theorem ok_law_rule_right (T : Facts K mg) : FnOk P w K mg base CX0 9 T.f_law_rule_right T.fd_law_rule_right ["_law_one", "_law_other", "_law_third"] spRuleR := by
  have G_laid := ok_laid (P := P) (w := w) (base := base) T
  have G_Form_init := ok_Form_init (P := P) (w := w) (base := base) T
  have G_Form_mul := ok_Form_mul (P := P) (w := w) (base := base) T
  have G_Form_add := ok_Form_add (P := P) (w := w) (base := base) T
  have G_Form_degree := ok_Form_degree (P := P) (w := w) (base := base) T
  have G_Form_is_zero := ok_Form_is_zero (P := P) (w := w) (base := base) T
  refine T.F_law_rule_right.ok sc_law_rule_right (fun vs H Q E h => ?_) (fun cdv A outer s H vs Q E hr h => ?_)
  · obtain ⟨t1, t2, t3, l, m, o, n, k, j, rfl, _⟩ := h
    rfl
  · obtain ⟨t1, t2, t3, l, m, o, n, k, j, rfl, h1, h2, h3, bl, bm, bo, ⟨hn1, hn⟩, ⟨hk1, hk⟩, ⟨hj1, hj⟩, q⟩ := h
    have tl : Tr l := bl.tr (by omega) (by decide)
    have tm : Tr m := bm.tr (by omega) (by decide)
    have to_ : Tr o := bo.tr (by omega) (by decide)
    have lenl := bl.len
    have lenm := bm.len
    have leno := bo.len
    refine ⟨_, (PSs.nox (pss_cons (ps_par3 (i := 3) (j := 4) (l := 5) (by rfl) sc_law_rule_right.nd rfl rfl rfl (by decide) (by decide) (by decide) rfl rfl rfl (pa_cons (pe_make T.mk_Form G_Form_init (hr.mono (by decide)) (by rfl) T.g_Form T.b_Form_init .nil pass0 (pa_cons (pv 0) pa_nil)) (pa_cons (pe_make T.mk_Form G_Form_init (hr.mono (by decide)) (by rfl) T.g_Form T.b_Form_init .nil pass0 (pa_cons (pv 1) pa_nil)) (pa_cons (pe_make T.mk_Form G_Form_init (hr.mono (by decide)) (by rfl) T.g_Form T.b_Form_init .nil pass0 (pa_cons (pv 2) pa_nil)) pa_nil))) (by rfl))
    (pss_cons (ps_set (i := 6) sc_law_rule_right.nd rfl (.inl rfl) (pe_op (op_mulOI T.oc_Form T.mt_Form_mul G_Form_mul T.b_Form_mul (hr.mono (by decide))) (pe_op (op_mulO T.oc_Form T.mt_Form_mul G_Form_mul T.b_Form_mul (hr.mono (by decide))) (pv 3) (pe_call G_laid hr (by rfl) T.g_laid T.F_laid.kp T.b_laid .nil pass0 (pa_cons (pv 4) (pa_cons (pv 5) (pa_cons pe_int pa_nil))))) (pe_prp (pv 3) T.oc_Form T.pr_Form_degree G_Form_degree T.b_Form_degree (hr.mono (by decide)))))
    (pss_cons (ps_set (i := 6) sc_law_rule_right.nd rfl (.inl rfl) (pe_op (op_addO T.oc_Form T.mt_Form_add G_Form_add T.b_Form_add (hr.mono (by decide))) (pv 6) (pe_op (op_mulOI T.oc_Form T.mt_Form_mul G_Form_mul T.b_Form_mul (hr.mono (by decide))) (pe_op (op_mulO T.oc_Form T.mt_Form_mul G_Form_mul T.b_Form_mul (hr.mono (by decide))) (pv 4) (pe_call G_laid hr (by rfl) T.g_laid T.F_laid.kp T.b_laid .nil pass0 (pa_cons (pv 5) (pa_cons (pv 3) (pa_cons pe_int pa_nil))))) (pe_prp (pv 4) T.oc_Form T.pr_Form_degree G_Form_degree T.b_Form_degree (hr.mono (by decide))))))
    (pss_one (ps_ret (pe_prp (pe_op (op_addO T.oc_Form T.mt_Form_add G_Form_add T.b_Form_add (hr.mono (by decide))) (pv 6) (pe_op (op_mulOI T.oc_Form T.mt_Form_mul G_Form_mul T.b_Form_mul (hr.mono (by decide))) (pe_op (op_mulO T.oc_Form T.mt_Form_mul G_Form_mul T.b_Form_mul (hr.mono (by decide))) (pv 5) (pe_call G_laid hr (by rfl) T.g_laid T.F_laid.kp T.b_laid .nil pass0 (pa_cons (pv 3) (pa_cons (pv 4) (pa_cons pe_int pa_nil))))) (pe_prp (pv 5) T.oc_Form T.pr_Form_degree G_Form_degree T.b_Form_degree (hr.mono (by decide))))) T.oc_Form T.pr_Form_is_zero G_Form_is_zero T.b_Form_is_zero (hr.mono (by decide))))))))), ?_⟩
    refine ⟨_, rfl, fun a1 dx1 x1 x2 x3 => mkF x1 x2 x3 h1 tl.pos (by omega) tl.sho fun H1 s1 f1 => ⟨_, rfl, fun a2 dx2 x1 x2 x3 => mkF x1 x2 x3 (s1 _ _ h2) tm.pos (by omega) tm.sho fun H2 s2 f2 => ⟨_, rfl, fun a3 dx3 x1 x2 x3 => mkF x1 x2 x3 (s2 _ _ (s1 _ _ h3)) to_.pos (by omega) to_.sho fun H3 s3 f3 => ⟨_, _, _, rfl, ?_⟩⟩⟩⟩
    have F1 := (f1.same s2).same s3
    have F2 := f2.same s3
    have b100 : ∀ {f : List Int} {i : Nat}, Bd f i (2 ^ 47) → Bd f i (2 ^ 100) := fun h => h.mono (by decide)
    have L1 : ∀ {f g : List Int} {i i' : Nat}, Bd f i (2 ^ 47) → Bd g i' (2 ^ 47) → 1 ≤ i → 1 ≤ i' → i ≤ 6 → i' ≤ 6 → Bd (L 1 f g) (i + i' - 2) (2 ^ 110) := fun h g h1 g1 h2 g2 => (L_bd 1 h g (by omega) (by omega) h1 g1).mono (by decide)
    have bmo := L1 bm bo hk1 hj1 hk hj
    have bol := L1 bo bl hj1 hn1 hj hn
    have blm := L1 bl bm hn1 hk1 hn hk
    have lmo := bmo.len
    have lol := bol.len
    have llm := blm.len
    have B1 := bd_ml bl bmo
    have B2 := bd_ml bm bol
    have B3 := bd_ml bo blm
    have lB1 := B1.len
    have lB2 := B2.len
    have lB3 := B3.len
    have e157 : 2 ^ 47 * 2 ^ 110 ≤ 2 ^ 350 := Nat.le_trans (Nat.le_of_eq (Nat.pow_add 2 47 110).symm) (Nat.pow_le_pow_right (by decide) (by decide))
    have rl := tl.rw
    have rm := tm.rw
    have ro := to_.rw
    have e350 : 2 ^ 110 ≤ 2 ^ 350 := Nat.pow_le_pow_right (by decide) (by decide)
    have smd : ∀ {f : List Int} {i : Nat}, Bd f i (2 ^ 47) → i ≤ 6 → Sho ((f.length : Int) - 1) := fun h hi => Nat.lt_of_le_of_lt (show ((_ : Int) - 1).natAbs ≤ 10 by rw [h.len]; omega) (by decide)
    have sc : ∀ {f : List Int} {i A : Nat} {c : Int}, Bd f i A → c.natAbs ≤ 6 → Bd (f.map fun x => x * c) i (6 * A) := fun h hc => by rw [map_mul_comm]; exact bd_scale h hc
    have S1 := sc B1 (c := (l.length : Int) - 1) (by omega)
    have S2 := sc B2 (c := (m.length : Int) - 1) (by omega)
    have S3 := sc B3 (c := (o.length : Int) - 1) (by omega)
    have lS1 := S1.len
    have lS2 := S2.len
    have lS3 := S3.len
    have e6 : 6 * (2 ^ 47 * 2 ^ 110) ≤ 2 ^ 350 := Nat.le_trans (Nat.le_of_eq (by decide : 6 * (2 ^ 47 * 2 ^ 110) = 6 * 2 ^ 157)) (Nat.le_trans (by decide : 6 * 2 ^ 157 ≤ 2 ^ 160) (Nat.pow_le_pow_right (by decide) (by decide)))
    refine ⟨_, rfl, _, rfl, _, rfl, a2, a3, m, o, 1, rfl, F2, f3, ldOk_of (b100 bm) (b100 bo) (by omega) (by omega) hk1 hj1, by omega, fun p1 J1 u1 g1 => mul_forms (F1.same u1) g1 rl (lb bmo e350 (by omega)) (by omega) fun p2 J2 u2 g2 => ⟨_, rfl, prop_deg (F1.same (u1.trans u2)) (mulI_form g2 (lb B1 e157 (by omega)) (smd bl hn) fun p3 J3 u3 g3 => ?_)⟩⟩
    have w3 := (u1.trans u2).trans u3
    refine ⟨_, rfl, _, rfl, _, rfl, _, rfl, a3, a1, o, l, 1, rfl, f3.same w3, F1.same w3, ldOk_of (b100 bo) (b100 bl) (by omega) (by omega) hj1 hn1, by omega, fun p4 J4 u4 g4 => mul_forms (F2.same (w3.trans u4)) g4 rm (lb bol e350 (by omega)) (by omega) fun p5 J5 u5 g5 => ⟨_, rfl, prop_deg (F2.same (w3.trans (u4.trans u5))) (mulI_form g5 (lb B2 e157 (by omega)) (smd bm hk) fun p6 J6 u6 g6 => add_forms (g3.same ((u4.trans u5).trans u6)) g6 (by omega) (lb S2 e6 (by omega)) fun p7 J7 u7 g7 => ?_)⟩⟩
    have w7 := w3.trans ((u4.trans u5).trans (u6.trans u7))
    have lz := zs_len (c := 1) (l := (ml l (L 1 m o)).map fun x => x * ((l.length : Int) - 1)) (m := (ml m (L 1 o l)).map fun x => x * ((m.length : Int) - 1)) (by omega)
    refine ⟨_, rfl, _, rfl, _, rfl, _, rfl, a1, a2, l, m, 1, rfl, F1.same w7, F2.same w7, ldOk_of (b100 bl) (b100 bm) (by omega) (by omega) hn1 hk1, by omega, fun p8 J8 u8 g8 => mul_forms (f3.same (w7.trans u8)) g8 ro (lb blm e350 (by omega)) (by omega) fun p9 J9 u9 g9 => ⟨_, rfl, prop_deg (f3.same (w7.trans (u8.trans u9))) (mulI_form g9 (lb B3 e157 (by omega)) (smd bo hj) fun p10 J10 u10 g10 => add_forms (g7.same ((u8.trans u9).trans u10)) g10 (by omega) (lb S3 e6 (by omega)) fun p11 J11 u11 g11 => prop_zero g11 ?_)⟩⟩
    rw [any_zero fun x y => ?_]
    · exact q _ ((s1.trans (s2.trans s3)).trans (w7.trans ((u8.trans u9).trans (u10.trans u11))))
    · rw [ev_zs 1 (by omega), ev_zs 1 (by omega), map_mul_comm, map_mul_comm, map_mul_comm, ev_map, ev_map, ev_map, ev_ml tl.ne bmo.ne, ev_ml tm.ne bol.ne, ev_ml to_.ne blm.ne]
      have := three (f := l) (g := m) (h := o) (by omega) (by omega) (by omega) x y
      grind
def spPowR : Sp := fun vs H Q _ => ∃ (d t1 : Addr) (l : List Int) (n : Nat), vs = [.ref d, .ref t1] ∧ Dc H d ∧ H t1 = some (tp l) ∧ Bd l n (2 ^ 47) ∧ n ≤ 6 ∧ ∀ H', Sx d H H' → Dc H' d → Q (.bl true) H'
theorem fact_abs : ∀ n : Nat, n ≤ 6 → (fact n).natAbs ≤ 720
  | 0, _ => by decide
  | 1, _ => by decide
  | 2, _ => by decide
  | 3, _ => by decide
  | 4, _ => by decide
  | 5, _ => by decide
  | 6, _ => by decide
  | n + 7, h => absurd h (by omega)
theorem ok_law_power_right (T : Facts K mg) : FnOk P w K mg base CX0 9 T.f_law_power_right T.fd_law_power_right ["_law_dice_here", "_law_one"] spPowR := by
  have G_law_near : FnOk P w K mg base CX0 2 T.f_law_near T.fd_law_near ["_law_dice_here", "_law_most"] spNear := ok_law_near T
  have G_law_value := ok_law_value (P := P) (w := w) (base := base) T
  have G_laid := ok_laid (P := P) (w := w) (base := base) T
  have G_Form_init := ok_Form_init (P := P) (w := w) (base := base) T
  have G_Form_entries := ok_Form_entries (P := P) (w := w) (base := base) T
  have G_Form_power := ok_Form_power (P := P) (w := w) (base := base) T
  refine T.F_law_power_right.ok sc_law_power_right (fun vs H Q E h => ?_) (fun cdv A outer s H vs Q E hr h => ?_)
  · obtain ⟨d, t1, l, n, rfl, _⟩ := h
    rfl
  · obtain ⟨d, t1, l, n, rfl, hd, h1, bl, hn, q⟩ := h
    have e15 : (10 : Int) ^ 15 = 1000000000000000 := by decide
    have z1 : 1 ≤ sizeLine := by decide
    have z2 : 2 ≤ sizeLine := by decide
    have tl : Tr l := bl.tr (by omega) (by decide)
    have lenl := bl.len
    refine ⟨_, (PSs.nox (pss_cons (ps_par (i := 2) (j := 3) (by rfl) sc_law_power_right.nd rfl rfl (by decide) rfl rfl (pa_cons (pe_op op_sub (pe_callB call_len_seq (by rfl) T.z_len (by decide +kernel) (pa_cons (pv 1) pa_nil)) pe_int) (pa_cons (pe_tup (pa_cons (pe_call G_law_near (hr.mono (by decide)) (by rfl) T.g_law_near T.F_law_near.kp T.b_law_near .nil pass0 (pa_cons (pv 0) (pa_cons pe_int pa_nil))) (pa_cons (pe_call G_law_near (hr.mono (by decide)) (by rfl) T.g_law_near T.F_law_near.kp T.b_law_near .nil pass0 (pa_cons (pv 0) (pa_cons pe_int pa_nil))) pa_nil))) pa_nil)) (by rfl))
    (pss_cons (ps_set (i := 4) sc_law_power_right.nd rfl (.inl rfl) (pe_call G_law_value (hr.mono (by decide)) (by rfl) T.g_law_value T.F_law_value.kp T.b_law_value .nil pass0 (pa_cons (pv 1) (pa_cons (pe_ix ix_tup (pv 3) pe_int (fun _ _ => rfl)) (pa_cons (pe_op op_sub pe_int (pe_ix ix_tup (pv 3) pe_int (fun _ _ => rfl))) pa_nil)))))
    (pss_cons (ps_for PassesOwn.never (by rfl) (pi_range2 (by rfl) T.z_range (pa_cons pe_int (pa_cons (pe_op op_add (pv 2) pe_int) pa_nil))) (pg_name (i := 5) sc_law_power_right.nd rfl (.inl rfl))
      (pss_one (ps_set (i := 4) sc_law_power_right.nd rfl (.inl rfl) (pe_op op_mulW (pe_op op_mulW (pv 4) (pv 5)) (pv 5)))))
    (pss_one (ps_ret (pe_cmpR (op_eqD (hu64 hr)) (pe_prp (pe_call G_laid hr (by rfl) T.g_laid T.F_laid.kp T.b_laid .nil pass0 (pa_cons (pe_make T.mk_Form G_Form_init (hr.mono (by decide)) (by rfl) T.g_Form T.b_Form_init .nil pass0 (pa_cons (pv 1) pa_nil)) (pa_cons (OwnC.pe_cmF (pe_glob (v := .ref T.C_Form) (by rfl) T.g_Form rfl) T.cm_Form_power G_Form_power T.b_Form_power (hr.mono (by decide)) (pa_cons (pv 3) (pa_cons (pv 2) pa_nil))) (pa_cons (pv 2) pa_nil)))) T.oc_Form T.pr_Form_entries G_Form_entries T.b_Form_entries (hr.mono (by decide))) (pe_tup (pa_cons (pv 4) pa_nil)) (nomark _)))))))), ?_⟩
    refine ⟨_, rfl, t1, _, rfl, .inr (SqT.of h1), ?_⟩
    rw [List.length_map]
    refine ⟨_, _, rfl, rfl, _, rfl, d, 5, rfl, hd, by decide, by rw [e15]; decide, fun u H1 u1 u2 s1 d1 => ⟨_, rfl, d, 5, rfl, d1, by decide, by rw [e15]; decide, fun v H2 v1 v2 s2 d2 => ⟨z2, fun p0 n0 => gen_upd H2 p0 (tp [u, v]) n0 fun H3 s3 f3 => ⟨_, _, rfl, ?_⟩⟩⟩⟩
    dsimp only []
    rw [show (l.length : Int) - 1 = (n : Int) by omega]
    have hu : u.natAbs ≤ 5 := by omega
    have hv : v.natAbs ≤ 5 := by omega
    have hT1 := s3 _ _ (s2 _ _ (dc_ne d1 (s1 _ _ (dc_ne hd h1) h1)) (s1 _ _ (dc_ne hd h1) h1))
    have d3 := d2.same s3
    have S3 : Sx d H H3 := (s1.trans s2).trans (Sx.of s3)
    have vb : Vb l v (0 - u) 5 := ⟨hv, by omega, by decide, lt400 (i := 70) (Nat.le_trans (Nat.mul_le_mul bl.nm (Nat.pow_le_pow_right (by decide) (show l.length ≤ 7 by omega))) (by decide)) (by decide), lt400 (i := 70) (Nat.le_trans (Nat.pow_le_pow_right (by decide) (show l.length + 1 ≤ 8 by omega)) (by decide)) (by decide)⟩
    have sml : ∀ z ∈ l, sm z := fun z hz => lt400 (bl.mem z hz) (by decide)
    refine ⟨_, rfl, _, rfl, p0, _, 1, _, rfl, rfl, SqT.of f3, atI_nat (j := 1) rfl, _, rfl, p0, _, 0, _, rfl, rfl, SqT.of f3, atI_nat (j := 0) rfl, _, _, rfl, rfl, t1, l, v, 0 - u, 5, rfl, hT1, sml, vb, fun H4 s4 => ?_⟩
    have evb : (ev l v (0 - u)).natAbs ≤ 2 ^ 70 := by
      have h1 := (vfs_bd vb l.length (Nat.le_refl _)).1
      rw [vfs_ev, List.take_length] at h1
      exact Nat.le_trans h1 (Nat.le_trans (Nat.mul_le_mul bl.nm (Nat.pow_le_pow_right (by decide) (show l.length ≤ 7 by omega))) (by decide))
    refine ⟨_, rfl, _, _, rfl, rfl, 1, _, rfl, ⟨by decide, by decide, by omega, by omega⟩, for_range (n := ((n : Int) + 1 - 1).toNat) (fun i σ H' => ∃ y5, σ = [some (.ref d), some (.ref t1), some (.int n), some (.ref p0), some (.int (fact i * fact i * ev l v (0 - u))), y5] ∧ H' = H4) ⟨none, by show [_, _, _, _, some (V.int (ev l v (0 - u))), none] = [_, _, _, _, some (V.int (1 * 1 * ev l v (0 - u))), none]; rw [Int.one_mul, Int.one_mul], rfl⟩ (fun i σ H' hi hP => ?_) (fun σ H' hP => ?_)⟩
    · obtain ⟨y5, rfl, rfl⟩ := hP
      have hi6 : i ≤ 6 := by omega
      have fb := fact_abs i hi6
      have sA : (fact i * fact i * ev l v (0 - u)).natAbs ≤ 2 ^ 100 := by
        rw [Int.natAbs_mul, Int.natAbs_mul]
        exact Nat.le_trans (Nat.mul_le_mul (Nat.mul_le_mul fb fb) evb) (by decide)
      have sB : (fact i * fact i * ev l v (0 - u) * (1 + (i : Int))).natAbs ≤ 2 ^ 110 := by
        rw [Int.natAbs_mul]
        exact Nat.le_trans (Nat.mul_le_mul sA (show (1 + (i : Int)).natAbs ≤ 7 by omega)) (by decide)
      refine ⟨_, rfl, _, rfl, _, _, rfl, rfl, sm_mul (lt400 sA (by decide)) (sm_le (n := 7) (by omega) (by decide)), _, rfl, _, _, rfl, rfl, sm_mul (lt400 sB (by decide)) (sm_le (n := 7) (by omega) (by decide)), some (.int (1 + (i : Int))), ?_, rfl⟩
      show [some (V.ref d), some (V.ref t1), some (V.int n), some (V.ref p0), some (V.int (fact i * fact i * ev l v (0 - u) * (1 + (i : Int)) * (1 + (i : Int)))), _] = [some (V.ref d), some (V.ref t1), some (V.int n), some (V.ref p0), some (V.int (fact i * ((i : Int) + 1) * (fact i * ((i : Int) + 1)) * ev l v (0 - u))), _]
      rw [show fact i * fact i * ev l v (0 - u) * (1 + (i : Int)) * (1 + (i : Int)) = fact i * ((i : Int) + 1) * (fact i * ((i : Int) + 1)) * ev l v (0 - u) by grind]
    · obtain ⟨y5, rfl, rfl⟩ := hP
      rw [show ((n : Int) + 1 - 1).toNat = n by omega]
      have b10 : Bd [u, v] 1 10 := bd2 hu hv
      have bp : ∀ i, i ≤ 6 → Bd (pow [u, v] i) i (2 ^ 24) := fun i hi => (bd_pow b10 i).mono (Nat.le_trans (Nat.pow_le_pow_right (by decide) hi) (by decide))
      have lp6 := (bp n hn).len
      have b100 : Bd l n (2 ^ 100) := bl.mono (by decide)
      refine ⟨_, rfl, fun a1 dx1 x1 x2 x3 => mkF x1 x2 x3 (s4 _ _ hT1) tl.pos (by omega) tl.sho fun H5 s5 f5 => ⟨rfl, _, rfl, _, rfl, p0, u, v, n, rfl, (s4.trans s5) _ _ f3, Nat.lt_of_le_of_lt hu (by decide), Nat.lt_of_le_of_lt hv (by decide), by omega, fun i hi => (bp i (by omega)).rw (by omega) (two_lt (by decide)), fun p6 H6 s6 f6 => ?_⟩⟩
      refine ⟨_, rfl, a1, p6, l, _, n, rfl, f5.same s6, f6, ldOk_of b100 ((bp n hn).mono (by decide)) (by omega) (by omega) (Nat.le_refl n) (Nat.le_refl n), by omega, fun p7 H7 s7 f7 => prop_ent f7 fun u8 k8 => ⟨_, rfl, z1, fun p9 n9 => gen_upd H7 p9 (tp [fact n * fact n * ev l v (0 - u)]) n9 fun H8 s8 f8 => eq_ints (SqT.of (s8 _ _ k8)) (SqT.of f8) ?_⟩⟩
      rw [decide_eq_true (by rw [L_pow_list lenl, Int.zero_sub])]
      have ss := (s4.trans (s5.trans s6)).trans (s7.trans s8)
      exact q H8 (S3.trans (Sx.of ss)) (d3.same ss)
end
end K10

set_option Elab.async false
set_option linter.all false
set_option maxRecDepth 100000
set_option maxHeartbeats 4000000
namespace K10
open PySem PySem.Spec PyProof.Rows L2 StX RZ MyR SlX OwnR OwnF EnumT
section
variable {P : Program} {w : World} {K : PySem.W.Frag} {mg : Str → Option Value} {base : Heap}
/-- tuples of ints -/
structure Lt (H : Hp) (rs : List Addr) (ls : List (List Int)) : Prop where
  len : rs.length = ls.length
  row : ∀ k (h : k < rs.length) (h' : k < ls.length), H rs[k] = some (tp ls[k])
theorem ok_law_right (T : Facts K mg) : FnOk P w K mg base CX0 10 T.f_law_right T.fd_law_right ["_law_dice_here"] spRight := by
  have G_law_roll : FnOk P w K mg base CX0 1 T.f_law_roll T.fd_law_roll ["_law_dice_here", "_law_total"] spRoll2 := (ok_law_roll T).imp roll2
  have G_law_form := ok_law_form (P := P) (w := w) (base := base) T
  have G_law_layings_right := ok_law_layings_right (P := P) (w := w) (base := base) T
  have G_law_rule_right := ok_law_rule_right (P := P) (w := w) (base := base) T
  have G_law_power_right := ok_law_power_right (P := P) (w := w) (base := base) T
  refine T.F_law_right.ok sc_law_right (fun vs H Q E h => ?_) (fun cdv A outer s H vs Q E hr h => ?_)
  · obtain ⟨d, rfl, _⟩ := h
    rfl
  · obtain ⟨d, rfl, hd, q⟩ := h
    refine ⟨_, (PSs.nox (pss_cons (ps_par (i := 1) (j := 2) (by rfl) sc_law_right.nd rfl rfl (by decide) rfl rfl (pa_cons (pe_call G_law_form (hr.mono (by decide)) (by rfl) T.g_law_form T.F_law_form.kp T.b_law_form .nil pass0 (pa_cons (pv 0) (pa_cons (pe_call G_law_roll (hr.mono (by decide)) (by rfl) T.g_law_roll T.F_law_roll.kp T.b_law_roll .nil pass0 (pa_cons (pv 0) (pa_cons pe_int pa_nil))) pa_nil))) (pa_cons (pe_call G_law_form (hr.mono (by decide)) (by rfl) T.g_law_form T.F_law_form.kp T.b_law_form .nil pass0 (pa_cons (pv 0) (pa_cons (pe_call G_law_roll (hr.mono (by decide)) (by rfl) T.g_law_roll T.F_law_roll.kp T.b_law_roll .nil pass0 (pa_cons (pv 0) (pa_cons pe_int pa_nil))) pa_nil))) pa_nil)) (by rfl))
    (pss_cons (ps_if (pw_or (pt_not (pt_val (pe_call G_law_layings_right hr (by rfl) T.g_law_layings_right T.F_law_layings_right.kp T.b_law_layings_right .nil pass0 (pa_cons (pv 0) (pa_cons (pv 1) (pa_cons (pv 2) pa_nil)))))) (pw_or1 (pt_not (pt_val (pe_call G_law_power_right hr (by rfl) T.g_law_power_right T.F_law_power_right.kp T.b_law_power_right .nil pass0 (pa_cons (pv 0) (pa_cons (pv 1) pa_nil))))))).pt
      (pss_one (ps_ret pe_bl))
      pss_nil)
    (pss_cons (ps_setLc (i := 3) (own := [("_law_turn", 4)]) (g := (gName 4)) (tt := tYes) rfl sc_law_right.nd rfl rfl (sw_true rfl rfl rfl (by decide +kernel)) (pi_range1 (by rfl) T.z_range (pa_cons pe_int pa_nil)) (blkOk_by (N := N_law_right) (sc := defScope s_law_right) (by decide +kernel)) (fun _ _ _ _ _ => (pg_name (i := 4) sc_law_right.nd rfl (.inl rfl))) (fun _ _ _ _ _ => pts_nil) (fun _ _ _ _ _ => (pe_call G_law_form (hr.mono (by decide)) (by rfl) T.g_law_form T.F_law_form.kp T.b_law_form .nil pass0 (pa_cons (pv 0) (pa_cons (pe_op op_add pe_int (pe_call G_law_roll (hr.mono (by decide)) (by rfl) T.g_law_roll T.F_law_roll.kp T.b_law_roll .nil pass0 (pa_cons (pv 0) (pa_cons pe_int pa_nil)))) pa_nil)))))
    (pss_one (ps_ret (pe_call G_law_rule_right hr (by rfl) T.g_law_rule_right T.F_law_rule_right.kp T.b_law_rule_right .nil pass0 (pa_cons (pe_ix ix_list (pv 3) pe_int (fun _ _ => rfl)) (pa_cons (pe_ix ix_list (pv 3) pe_int (fun _ _ => rfl)) (pa_cons (pe_ix ix_list (pv 3) pe_int (fun _ _ => rfl)) pa_nil)))))))))), ?_⟩
    have lg : ∀ i : Nat, i < 100 → (i : Int).natAbs.log2 < 9000 := fun i hi => Nat.lt_trans (PySem.Flt.log2_lt_of (k := 10) (by decide) (by show i < 2 ^ 10; omega)) (by decide)
    have e14 : (10 : Nat) ^ 14 ≤ 2 ^ 47 := by decide
    refine ⟨_, rfl, _, rfl, d, 7, rfl, hd, by decide, lg 7 (by decide), fun n H1 hn1 s1 d1 => ?_⟩
    have hn1 : (n : Int) < 7 := hn1
    refine ⟨d, n, rfl, d1, by omega, fun t1 H2 l s2 d2 h12 bl => ⟨_, rfl, _, rfl, d, 7, rfl, d2, by decide, lg 7 (by decide), fun k H3 hk3 s3 d3 => ?_⟩⟩
    have hk3 : (k : Int) < 7 := hk3
    refine ⟨d, k, rfl, d3, by omega, fun t2 H4 m s4 d4 h24 bm => ⟨_, _, rfl, ?_⟩⟩
    have h14 := (s3.trans s4) _ _ (dc_ne d2 h12) h12
    have bl := bl.mono e14
    have bm := bm.mono e14
    refine ⟨_, rfl, _, rfl, _, rfl, d, t1, t2, l, m, n, k, rfl, d4, h14, h24, bl, by omega, bm, by omega, fun H5 s5 d5 => ⟨true, rfl, iteF ?_⟩⟩
    have h15 := s5 _ _ (dc_ne d4 h14) h14
    refine ⟨_, rfl, _, rfl, d, t1, l, n, rfl, d5, h15, bl, by omega, fun H6 s6 d6 => ⟨true, rfl, iteF ?_⟩⟩
    refine ⟨3, rfl, by decide, by decide, fun D hD => lc_range (n := (3 : Int).toNat) (fun j H' => Sx d H6 H' ∧ Dc H' d ∧ ∃ (rs : List Addr) (ls : List (List Int)), H' D = some (.lst (rs.map V.ref)) ∧ rs.length = j ∧ Lt H' rs ls ∧ ∀ l ∈ ls, ∃ i, Bd l i (2 ^ 47) ∧ 1 ≤ i ∧ i ≤ 6) ⟨Sx.of (same_upd0 hD), d6.same (same_upd0 hD), [], [], upd_same, rfl, ⟨rfl, fun k hk _ => absurd hk (Nat.not_lt_zero k)⟩, fun l hl => (nomatch hl)⟩ (fun j H' hj hP => ?_) (fun H' hP => ?_)⟩
    · obtain ⟨sH, dH, rs, ls, hL, hl1, lt, hb⟩ := hP
      have hj3 : j < 3 := hj
      have nD : D ≠ d := d6.ne hD
      refine ⟨rfl, _, rfl, _, rfl, d, 5, rfl, dH, by decide, lg 5 (by decide), fun i J1 hi u1 e1 => ⟨_, _, rfl, rfl, ?_⟩⟩
      have hi : (i : Int) < 5 := hi
      refine ⟨d, 1 + i, by show [V.ref d, V.int (1 + (i : Int))] = [V.ref d, V.int ((1 + i : Nat) : Int)]; rw [show (1 + (i : Int)) = ((1 + i : Nat) : Int) by omega], e1, by omega, fun p J2 f u2 e2 g2 bf => ?_⟩
      have hL2 := u2 D _ nD (u1 D _ nD hL)
      have dD : ∀ a l, J2 a = some (tp l) → a ≠ D := fun a l e z => by
        rw [z, hL2] at e
        cases e
      refine ⟨_, hL2, by rw [List.length_map, hl1]; exact small1000 (by omega), fun b o hb2 e => ?_, ?_, rs ++ [p], ls ++ [f], by rw [upd_same, List.map_append]; rfl, by rw [List.length_append, hl1]; rfl, ⟨by rw [List.length_append, List.length_append, lt.len]; rfl, fun k hk hk' => ?_⟩, fun l hl => ?_⟩
      · rw [upd_ne (ne_of_none e hD)]
        exact u2 b o hb2 (u1 b o hb2 (sH b o hb2 e))
      · obtain ⟨x, y, z, e⟩ := e2
        exact ⟨x, y, z, by rw [upd_ne (Ne.symm nD)]; exact e⟩
      · by_cases c : k < rs.length
        · have c' : k < ls.length := by have := lt.len; omega
          rw [show (rs ++ [p])[k] = rs[k] from List.getElem_append_left _, show (ls ++ [f])[k] = ls[k] from List.getElem_append_left _]
          have e3 := (u1.trans u2) _ _ (dc_ne dH (lt.row k c c')) (lt.row k c c')
          rw [upd_ne (dD _ _ e3)]
          exact e3
        · have ek : k = rs.length := by rw [List.length_append] at hk; simp at hk; omega
          subst ek
          rw [show (rs ++ [p])[rs.length] = p by rw [List.getElem_append_right (Nat.le_refl _)]; simp, show (ls ++ [f])[rs.length] = f by rw [List.getElem_append_right (by rw [lt.len]; exact Nat.le_refl _)]; simp [lt.len], upd_ne (dD _ _ g2)]
          exact g2
      · rcases List.mem_append.mp hl with e | e
        · exact hb l e
        · rw [List.mem_singleton.mp e]
          exact ⟨1 + i, bf.mono e14, by omega, by omega⟩
    · obtain ⟨sH, dH, rs, ls, hL, hl1, lt, hb⟩ := hP
      have hl2 : ls.length = 3 := by rw [← lt.len, hl1]; rfl
      match rs, hl1, ls, hl2, hL, lt, hb with
      | [r1, r2, r3], _, [l1, l2, l3], _, hL, lt, hb =>
        have k1 : H' r1 = some (tp l1) := lt.row 0 (by simp) (by simp)
        have k2 : H' r2 = some (tp l2) := lt.row 1 (by simp) (by simp)
        have k3 : H' r3 = some (tp l3) := lt.row 2 (by simp) (by simp)
        obtain ⟨i1, b1, c1, c1'⟩ := hb l1 (by simp)
        obtain ⟨i2, b2, c2, c2'⟩ := hb l2 (by simp)
        obtain ⟨i3, b3, c3, c3'⟩ := hb l3 (by simp)
        refine ⟨_, rfl, D, _, 0, _, rfl, rfl, SqL.of hL, atI_nat (j := 0) rfl, _, rfl, D, _, 1, _, rfl, rfl, SqL.of hL, atI_nat (j := 1) rfl, _, rfl, D, _, 2, _, rfl, rfl, SqL.of hL, atI_nat (j := 2) rfl, r1, r2, r3, l1, l2, l3, i1, i2, i3, rfl, k1, k2, k3, b1, b2, b3, ⟨c1, c1'⟩, ⟨c2, c2'⟩, ⟨c3, c3'⟩, fun H7 s7 => ?_⟩
        exact q H7 (((((s1.trans s2).trans s3).trans s4).trans (s5.trans s6)).trans (sH.trans (Sx.of s7))) (dH.same s7)
theorem ok_law (T : Facts K mg) : FnOk P w K mg base CX0 11 T.f_law T.fd_law ["_law_script"] (spLaw K) := by
  have G_law_dice : FnOk P w K mg base CX0 1 T.f_law_dice T.fd_law_dice ["_law_script", "_law_spot"] (spDice K) := ok_law_dice T
  have G_law_right := ok_law_right (P := P) (w := w) (base := base) T
  have G_laid := ok_laid (P := P) (w := w) (base := base) T
  have G_Form_init := ok_Form_init (P := P) (w := w) (base := base) T
  have G_Form_entries := ok_Form_entries (P := P) (w := w) (base := base) T
  refine T.F_law.ok sc_law (fun vs H Q E h => ?_) (fun cdv A outer s H vs Q E hr h => ?_)
  · obtain ⟨a, ns, rfl, _⟩ := h
    rfl
  · obtain ⟨a, ns, rfl, hS, hlen, q⟩ := h
    refine ⟨_, (PSs.nox (pss_cons (ps_for PassesOwn.never (by rfl) (pi_range1 (by rfl) T.z_range (pa_cons (pe_callB (call_max2 (by rfl)) (by rfl) T.z_max (by decide +kernel) (pa_cons pe_int (pa_cons (pe_callB (call_min2 (by rfl)) (by rfl) T.z_min (by decide +kernel) (pa_cons pe_int (pa_cons (pe_callB call_len_seq (by rfl) T.z_len (by decide +kernel) (pa_cons (pv 0) pa_nil)) pa_nil))) pa_nil))) pa_nil)) (pg_name (i := 1) sc_law.nd rfl (.inl rfl))
      (pss_one (ps_if (pt_not (pt_val (pe_call G_law_right hr (by rfl) T.g_law_right T.F_law_right.kp T.b_law_right .nil pass0 (pa_cons (pe_call G_law_dice (hr.mono (by decide)) (by rfl) T.g_law_dice T.F_law_dice.kp T.b_law_dice .nil pass0 (pa_cons (pv 0) (pa_cons (pv 1) pa_nil))) pa_nil))))
        (pss_one (ps_ret pe_bl))
        pss_nil)))
    (pss_cons (ps_par3 (i := 2) (j := 3) (l := 4) (by rfl) sc_law.nd rfl rfl rfl (by decide) (by decide) (by decide) rfl rfl rfl (pa_cons (pe_make T.mk_Form G_Form_init (hr.mono (by decide)) (by rfl) T.g_Form T.b_Form_init .nil pass0 (pa_cons (pe_tup (pa_cons pe_int (pa_cons pe_int (pa_cons (pe_un un_neg pe_int) pa_nil)))) pa_nil)) (pa_cons (pe_make T.mk_Form G_Form_init (hr.mono (by decide)) (by rfl) T.g_Form T.b_Form_init .nil pass0 (pa_cons (pe_tup (pa_cons pe_int (pa_cons pe_int (pa_cons (pe_un un_neg pe_int) (pa_cons pe_int pa_nil))))) pa_nil)) (pa_cons (pe_make T.mk_Form G_Form_init (hr.mono (by decide)) (by rfl) T.g_Form T.b_Form_init .nil pass0 (pa_cons (pe_tup (pa_cons pe_int (pa_cons pe_int (pa_cons pe_int (pa_cons pe_int (pa_cons pe_int pa_nil)))))) pa_nil)) pa_nil))) (by rfl))
    (pss_cons (ps_set (i := 5) sc_law.nd rfl (.inl rfl) (pe_lst (pa_cons (pe_prp (pe_call G_laid (hr.mono (by decide)) (by rfl) T.g_laid T.F_laid.kp T.b_laid .nil pass0 (pa_cons (pv 2) (pa_cons (pv 2) (pa_cons pe_int pa_nil)))) T.oc_Form T.pr_Form_entries G_Form_entries T.b_Form_entries (hr.mono (by decide))) (pa_cons (pe_prp (pe_call G_laid (hr.mono (by decide)) (by rfl) T.g_laid T.F_laid.kp T.b_laid .nil pass0 (pa_cons (pv 3) (pa_cons (pv 3) (pa_cons pe_int pa_nil)))) T.oc_Form T.pr_Form_entries G_Form_entries T.b_Form_entries (hr.mono (by decide))) (pa_cons (pe_prp (pe_call G_laid (hr.mono (by decide)) (by rfl) T.g_laid T.F_laid.kp T.b_laid .nil pass0 (pa_cons (pv 4) (pa_cons (pv 4) (pa_cons pe_int pa_nil)))) T.oc_Form T.pr_Form_entries G_Form_entries T.b_Form_entries (hr.mono (by decide))) pa_nil)))))
    (pss_one (ps_ret (pe_and (pe_cmpR (op_eqD (hu64 hr)) (pv 5) (pe_lst (pa_cons (pe_tup (pa_cons (pe_un un_neg pe_int) pa_nil)) (pa_cons (pe_tup (pa_cons (pe_un un_neg pe_int) (pa_cons pe_int (pa_cons (pe_un un_neg pe_int) pa_nil)))) (pa_cons (pe_tup (pa_cons pe_int pa_nil)) pa_nil)))) (nomark _)) (pe_one (pe_cmpR (op_eqD (hu64 hr)) (pe_prp (pe_call G_laid (hr.mono (by decide)) (by rfl) T.g_laid T.F_laid.kp T.b_laid .nil pass0 (pa_cons (pe_make T.mk_Form G_Form_init (hr.mono (by decide)) (by rfl) T.g_Form T.b_Form_init .nil pass0 (pa_cons (pe_tup (pa_cons pe_int pa_nil)) pa_nil)) (pa_cons (pe_make T.mk_Form G_Form_init (hr.mono (by decide)) (by rfl) T.g_Form T.b_Form_init .nil pass0 (pa_cons (pe_tup (pa_cons pe_int pa_nil)) pa_nil)) (pa_cons pe_int pa_nil)))) T.oc_Form T.pr_Form_entries G_Form_entries T.b_Form_entries (hr.mono (by decide))) (pe_tup (pa_cons pe_int pa_nil)) (nomark _)))))))))), ?_⟩
    refine ⟨.ref a, rfl, a, _, rfl, .inl hS, 4, _, rfl, 1, _, rfl, _, rfl, ?_⟩
    rw [List.length_map]
    obtain ⟨n, hn, hn0⟩ : ∃ n : Int, (if (if ((ns.length : Nat) : Int) < 4 then ((ns.length : Nat) : Int) else 4) > 1 then (if ((ns.length : Nat) : Int) < 4 then ((ns.length : Nat) : Int) else 4) else 1) = n ∧ 0 ≤ n ∧ n ≤ 4 := ⟨_, rfl, by split <;> split <;> omega, by split <;> split <;> omega⟩
    rw [hn]
    refine ⟨by omega, by omega, for_range (n := n.toNat) (fun i σ H' => ∃ y1, σ = [some (.ref a), y1, none, none, none, none] ∧ SqL K H' a (ns.map V.int)) ⟨none, rfl, hS⟩ (fun i σ H1 hi hP => ?_) (fun σ H1 hP => ?_)⟩
    · obtain ⟨y1, rfl, h1⟩ := hP
      refine ⟨.ref a, rfl, _, rfl, a, ns, i, ?_, h1, fun d x y z nd => ?_⟩
      · show [V.ref a, V.int (0 + (i : Int))] ++ [] = _
        rw [Int.zero_add]
        rfl
      have d1 : Dc (upd H1 d (dice x y z)) d := ⟨x, y, z, upd_same⟩
      refine ⟨d, rfl, d1, fun H2 s2 d2 => ⟨true, rfl, iteF ?_⟩⟩
      exact ⟨_, rfl, script_Sx s2 nd h1⟩
    · obtain ⟨y1, rfl, h1⟩ := hP
      have z1 : 1 ≤ sizeLine := by decide
      have z3 : 3 ≤ sizeLine := by decide
      have z4 : 4 ≤ sizeLine := by decide
      have z5 : 5 ≤ sizeLine := by decide
      have bq : Bd [1, 0, -2] 2 5 := ⟨rfl, by decide⟩
      have bc : Bd [1, 0, -3, 1] 3 5 := ⟨rfl, by decide⟩
      have bf : Bd [1, 0, 0, 1, 0] 4 5 := ⟨rfl, by decide⟩
      have b5 : Bd [5] 0 5 := ⟨rfl, by decide⟩
      have b7 : Bd [7] 0 7 := ⟨rfl, by decide⟩
      have g100 : ∀ {l : List Int} {n b : Nat}, Bd l n b → b ≤ 7 → Bd l n (2 ^ 100) := fun h hb => h.mono (Nat.le_trans hb (by decide))
      have e1 : L 2 [1, 0, -2] [1, 0, -2] = [-16] := by decide +kernel
      have e2 : L 2 [1, 0, -3, 1] [1, 0, -3, 1] = [-72, 72, -72] := by decide +kernel
      have e3 : L 4 [1, 0, 0, 1, 0] [1, 0, 0, 1, 0] = [0] := by decide +kernel
      have e4 : L 0 [5] [7] = [35] := by decide +kernel
      refine ⟨_, rfl, z3, fun p1 m1 => gen_upd H1 p1 (tp [1, 0, -2]) m1 fun H2 s2 k2 => fun a1 dx x1 x2 x3 => mkB x1 x2 x3 k2 bq (by decide) (by decide) fun H3 s3 f1 => ⟨_, rfl, z4, fun p2 m2 => gen_upd H3 p2 (tp [1, 0, -3, 1]) m2 fun H4 s4 k4 => fun a2 dx x1 x2 x3 => mkB x1 x2 x3 k4 bc (by decide) (by decide) fun H5 s5 f2 => ⟨z5, fun p3 m3 => gen_upd H5 p3 (tp [1, 0, 0, 1, 0]) m3 fun H6 s6 k6 => fun a3 dx x1 x2 x3 => mkB x1 x2 x3 k6 bf (by decide) (by decide) fun H7 s7 f3 => ⟨_, _, _, rfl, ?_⟩⟩⟩⟩
      have F1 := f1.same ((s4.trans s5).trans (s6.trans s7))
      have F2 := f2.same (s6.trans s7)
      refine ⟨_, rfl, _, rfl, a1, a1, _, _, 2, rfl, F1, F1, ldOk_of (g100 bq (by decide)) (g100 bq (by decide)) (by decide) (by decide) (by decide) (by decide), by decide, fun b1 H8 s8 g1 => prop_ent g1 fun u1 w1 => ?_⟩
      rw [e1] at w1
      refine ⟨_, rfl, _, rfl, a2, a2, _, _, 2, rfl, F2.same s8, F2.same s8, ldOk_of (g100 bc (by decide)) (g100 bc (by decide)) (by decide) (by decide) (by decide) (by decide), by decide, fun b2 H9 s9 g2 => prop_ent g2 fun u2 w2 => ?_⟩
      rw [e2] at w2
      refine ⟨_, rfl, _, rfl, a3, a3, _, _, 4, rfl, f3.same (s8.trans s9), f3.same (s8.trans s9), ldOk_of (g100 bf (by decide)) (g100 bf (by decide)) (by decide) (by decide) (by decide) (by decide), by decide, fun b3 H10 s10 g3 => prop_ent g3 fun u3 w3 => ⟨z3, fun L1 nL1 => gen_upd H10 L1 _ nL1 fun H11 s11 w11 => ?_⟩⟩
      rw [e3] at w3
      refine ⟨_, rfl, _, rfl, z1, fun p5 m5 => gen_upd H11 p5 (tp [-16]) m5 fun H12 s12 k12 => ⟨_, rfl, _, rfl, z3, fun p6 m6 => gen_upd H12 p6 (tp [-72, 72, -72]) m6 fun H13 s13 k13 => ⟨z1, fun p7 m7 => gen_upd H13 p7 (tp [0]) m7 fun H14 s14 k14 => ⟨z3, fun L2 nL2 => gen_upd H14 L2 _ nL2 fun H15 s15 w15 => ?_⟩⟩⟩⟩
      have v15 := ((s12.trans s13).trans s14).trans s15
      have w := s11.trans v15
      refine ⟨.list [.tuple ([-16].map PyData.int), .tuple ([-72, 72, -72].map PyData.int), .tuple ([0].map PyData.int)], .list [.tuple ([-16].map PyData.int), .tuple ([-72, 72, -72].map PyData.int), .tuple ([0].map PyData.int)], .lst (SqL.of (v15 _ _ w11)) ?_, .lst (SqL.of w15) ?_, by decide +kernel, by decide +kernel, ?_⟩
      · exact .cons (.tup (SqT.of (((s9.trans s10).trans w) _ _ w1)) (dpAll_ints _)) (.cons (.tup (SqT.of ((s10.trans w) _ _ w2)) (dpAll_ints _)) (.cons (.tup (SqT.of (w _ _ w3)) (dpAll_ints _)) .nil))
      · exact .cons (.tup (SqT.of (((s13.trans s14).trans s15) _ _ k12)) (dpAll_ints _)) (.cons (.tup (SqT.of ((s14.trans s15) _ _ k13)) (dpAll_ints _)) (.cons (.tup (SqT.of (s15 _ _ k14)) (dpAll_ints _)) .nil))
      rw [show ∀ d : PyData, d = .list [.tuple ([-16].map PyData.int), .tuple ([-72, 72, -72].map PyData.int), .tuple ([0].map PyData.int)] → PyData.eqv d d = true from fun d e => SeqAt.eqv_refl _ (by rw [e]; decide +kernel)]
      · refine ⟨true, rfl, iteT ⟨z1, fun p8 m8 => gen_upd H15 p8 (tp [5]) m8 fun H16 s16 k16 => fun a5 dx x1 x2 x3 => mkB x1 x2 x3 k16 b5 (by decide) (by decide) fun H17 s17 f5 => ⟨z1, fun p9 m9 => gen_upd H17 p9 (tp [7]) m9 fun H18 s18 k18 => fun a6 dx x1 x2 x3 => mkB x1 x2 x3 k18 b7 (by decide) (by decide) fun H19 s19 f6 => ⟨a5, a6, _, _, 0, rfl, f5.same (s18.trans s19), f6, ldOk_of (g100 b5 (by decide)) (g100 b7 (by decide)) (by decide) (by decide) (by decide) (by decide), by decide, fun b7 H20 s20 g7 => prop_ent g7 fun u7 w7 => ⟨z1, fun p10 m10 => gen_upd H20 p10 (tp [35]) m10 fun H21 s21 k21 => eq_ints (SqT.of (s21 _ _ w7)) (SqT.of k21) ?_⟩⟩⟩⟩⟩
        rw [decide_eq_true e4]
        exact q H21
      · rfl
end
end K10

set_option Elab.async false
set_option linter.all false
set_option maxRecDepth 100000
set_option maxHeartbeats 0
namespace K10
open PySem PySem.Spec PyProof.Rows L2
theorem facts {P : Program} {w : World} {K : PySem.W.Frag} {h : Heap} {mg : Str → Option Value} {f : Addr} (X : K.In h) (G : h.Ns mainGlobals mg) (hfa : mg ("law" : Str) = some (.ref f)) (c : HookG.SaysG faL fnL exL K) :
    ∃ fd : FuncData, (∀ (s : Shared) (v : Value), BindsTo s fd ⟨[v], []⟩ [("_law_script", v)]) ∧ ∀ base : Heap, K.In base → base.Ns mainGlobals mg → FnOk P w K mg base CX0 11 f fd ["_law_script"] (spLaw K) := by
  obtain ⟨T⟩ := facts_of X G c
  have e := hfa.symm.trans T.g_law
  cases e
  have b := FunD.bindsA (ps := ["_law_script"]) T.F_law fun _ _ _ _ _ _ us hl => match us, hl with | [_], _ => rfl
  exact ⟨T.fd_law, fun s v => b s [v] rfl, fun base _ _ => ok_law T⟩
end K10
open PySem PySem.W PySem.Calls PyProof.Rows
theorem PySem.Challenge.cw_sourceforms_k10_whole_layings_holds : PySem.Challenge.rw_sourceforms_k10_whole_layings.Holds := by
  w_on; o_law
  refine HandSHeadRun.head_any (r := OpenLaw.row PySem.Challenge.rw_sourceforms_k10_whole_layings) (q := view (OpenLaw.row PySem.Challenge.rw_sourceforms_k10_whole_layings).prog [71]) (H := K10.hk) (ob := K10.ob) (M := 6000) (loose := K10.loose) (d := HandSHeadRun.topDef (OpenLaw.row PySem.Challenge.rw_sourceforms_k10_whole_layings).prog 71) (kwd := []) K10.ob_eq
    (by kernel_rfl) (fun s => by kernel_rfl) K10.run (by kernel_rfl) (by kernel_rfl) (by kernel_rfl) (by rfl) (by first | assumption | decide +kernel) (by decide +kernel) ⟨rfl, rfl, rfl, rfl, rfl, by decide +kernel⟩ ?hw ?hc
  case hw => w_witness2
  case hc =>
    refine L2.walk_ofE (l := PySem.Challenge.rw_sourceforms_k10_whole_layings) (n := 63) (k := 11) (x := "_law_script") (CX := L2.CX0) rfl (by decide) (by kernel_rfl) ⟨rfl, by decide, by decide⟩ ?F (fun _ _ _ _ z => z)
    intro w mg fa h Y G hmg0
    obtain ⟨K, KX, c⟩ := Y
    have hmg : mg ("law" : PySem.Str) = some (.ref fa) := by
      have e : (HandSHeadRun.topDef (OpenLaw.row PySem.Challenge.rw_sourceforms_k10_whole_layings).prog 71).name = ("law" : PySem.Str) := by kernel_rfl
      rw [← e]
      exact hmg0
    obtain ⟨fd, hb, hF⟩ := K10.facts (P := (PySem.Challenge.rw_sourceforms_k10_whole_layings).prog) (w := w) KX G hmg c
    exact ⟨K, fd, K10.spLaw K, KX, hb, fun H a ns hl _ hS => ⟨a, ns, rfl, hS, hl, fun _ => rfl⟩, hF⟩
