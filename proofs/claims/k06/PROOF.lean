import PyProof.Rows.All
import Wide.All
import OpenK.AllK
import Wide.FinOn
import KE.KOpsOwn
import HandS.ForMost
import HandS.Exc
import HandS.IsInst
import HandS.Wide
import HandS.ExcOwn
import HandS.RaiseOp
import HandS.RaiseMore
import PyProof.RaisesAny
import HandS.Flow
import HandS.TryOnly
import HandS.WordsExc
import HandS.Defaults
import HandS.Head0
import HandS.Head1
import HandS.Head2
import HandS.HeadEnd
import HandS.HeadHook1
import HandS.HeadHook2
import HandS.HeadHook3
import HandS.HeadHook4
import HandS.Style
import PySem.Challenge.RW_rangeends_k06_moments_and_spans
set_option Elab.async false
set_option linter.all false
set_option maxRecDepth 100000
set_option maxHeartbeats 4000000
/-! own operators over the hand layer -/
namespace L2
open PySem PySem.Spec PyProof.Rows
section
variable {X : Cx} {CX : CXT} {k : Nat} {f C : Addr} {fd : FuncData} {ps : List Str} {sp : Sp} {E : XK}
theorem inst_of {pins : List (Addr × Obj)} {σ : St} {H : Hp} {s : Shared} {a dx : Addr} {fs : List (Str × V)} (I : Inv X pins σ H s) (e : H a = some (.ins C dx fs)) :
    ∃ od, PySem.W.InstAt s.heap a (PySem.W.instObj C dx) C (some od) := by
  obtain ⟨mA, O, _⟩ := ins_get I.hok e
  obtain ⟨od, J, _⟩ := O.look
  exact ⟨od, J⟩
theorem relV_notImpl {v : V} {u : Value} (r : RelV v u) : u ≠ .notImplemented := by
  intro e
  subst e
  cases v with
  | non => cases (show Value.notImplemented = Value.none from r)
  | bl b => cases (show Value.notImplemented = Value.bool b from r)
  | int i => obtain ⟨t, q⟩ := (show ∃ t, Value.notImplemented = Value.int i t from r); cases q
  | str i => obtain ⟨t, q⟩ := (show ∃ t, Value.notImplemented = Value.str i t from r); cases q
  | byt i => obtain ⟨t, q⟩ := (show ∃ t, Value.notImplemented = Value.bytes i t from r); cases q
  | flt i => obtain ⟨t, q⟩ := (show ∃ t, Value.notImplemented = Value.float i t from r); cases q
  | ref i => cases (show Value.notImplemented = Value.ref i from r)
  | ty i => cases (show Value.notImplemented = Value.type i from r)
theorem cmpBack_of {Q : Value → Shared → Prop} {v : Value} {s : Shared} (h : v ≠ .notImplemented) (q : Q v s) : PySem.W.CmpBack Q v s := by
  cases v <;> first | exact absurd rfl h | exact q
/-- the callee runs, and hands back no NotImplemented -/
theorem run_back {pins : List (Addr × Obj)} {σ : St} {H : Hp} {s : Shared} {Q : VK} {us : List Value} {vs : List V} (F : FnOk X.prog X.w X.K X.mg X.base CX k f fd ps sp) (hr : Room k X.A) (hb : Binds X.K fd ps []) (hx : Passes CX X E)
    (I : Inv X pins σ H s) (r : Vals vs us) (h : sp vs H Q E) : wpAny (model X.prog X.w) X.A (call (.ref f) us) (PySem.W.CmpBack (EP X pins σ Q)) X.xe s := by
  refine wpAny_mono (run_fn (dvs := []) F hr hb .nil hx I r (by rw [List.append_nil]; exact h)) (fun v s' q => ?_) fun _ _ e => e
  obtain ⟨v', H', I', rv, q'⟩ := q
  exact cmpBack_of (relV_notImpl rv) ⟨v', H', I', rv, q'⟩
/-- a OP b, both of the class at C -/
def rOwn (C : Addr) (sp : Sp) (E : XK) : R2 := fun x y H Q => ∃ a dx fs b dy gs, x = .ref a ∧ H a = some (.ins C dx fs) ∧ y = .ref b ∧ H b = some (.ins C dy gs) ∧ sp [x, y] H Q E
theorem op_own {op : Operator} (hm : Meth X.K C (PySem.dunder op.info.2) f) (hs : PySem.W.selfFirst X.K C = true) (F : FnOk X.prog X.w X.K X.mg X.base CX k f fd ps sp) (hr : Room k X.A) (hb : Binds X.K fd ps []) (hx : Passes CX X E) :
    OpR X (binaryOp op) (rOwn C sp E) := by
  intro pins s σ H x y u v Q I rx ry h
  obtain ⟨a, dx, fs, b, dy, gs, ex, ha, ey, hb', h⟩ := h
  subst ex
  subst ey
  cases (show u = Value.ref a from rx)
  cases (show v = Value.ref b from ry)
  obtain ⟨oa, Ia⟩ := inst_of I ha
  obtain ⟨ob, Ib⟩ := inst_of I hb'
  obtain ⟨m, Fr⟩ := I.fr
  exact PySem.W.binop_K Fr I.mod.kin Ia Ib.type hs hm.1 hm.2 (run_back (vs := [V.ref a, V.ref b]) F hr hb hx I (.cons rfl (.cons rfl .nil)) h)
/-- - a, ~ a -/
def rOwn1 (C : Addr) (sp : Sp) (E : XK) : V → Hp → VK → Prop := fun x H Q => ∃ a dx fs, x = .ref a ∧ H a = some (.ins C dx fs) ∧ sp [x] H Q E
theorem un_ownNeg (hm : Meth X.K C "__neg__" f) (F : FnOk X.prog X.w X.K X.mg X.base CX k f fd ps sp) (hr : Room k X.A) (hb : Binds X.K fd ps []) (hx : Passes CX X E) : UnR X (unaryOp .USub) (rOwn1 C sp E) := by
  intro pins s σ H x u Q I rx h
  obtain ⟨a, dx, fs, ex, ha, h⟩ := h
  subst ex
  cases (show u = Value.ref a from rx)
  obtain ⟨oa, Ia⟩ := inst_of I ha
  obtain ⟨m, Fr⟩ := I.fr
  exact PySem.W.ksp_neg Fr I.mod.kin Ia hm.1 hm.2 (run_fn (vs := [V.ref a]) (dvs := []) F hr hb .nil hx I (.cons rfl .nil) (by exact h))
theorem un_ownInv (hm : Meth X.K C "__invert__" f) (F : FnOk X.prog X.w X.K X.mg X.base CX k f fd ps sp) (hr : Room k X.A) (hb : Binds X.K fd ps []) (hx : Passes CX X E) : UnR X (unaryOp .Invert) (rOwn1 C sp E) := by
  intro pins s σ H x u Q I rx h
  obtain ⟨a, dx, fs, ex, ha, h⟩ := h
  subst ex
  cases (show u = Value.ref a from rx)
  obtain ⟨oa, Ia⟩ := inst_of I ha
  obtain ⟨m, Fr⟩ := I.fr
  exact PySem.W.ksp_inv Fr I.mod.kin Ia hm.1 hm.2 (run_fn (vs := [V.ref a]) (dvs := []) F hr hb .nil hx I (.cons rfl .nil) (by exact h))
/-- comparisons: a OP b, a of the class at C, b of no subclass of it -/
theorem op_ownCmp {op : CmpOp} {tb : Value} (ho : compareOp op = richCompare op) (hm : Meth X.K C (cmpInfo op).2.1 f) (F : FnOk X.prog X.w X.K X.mg X.base CX k f fd ps sp) (hr : Room k X.A) (hb : Binds X.K fd ps []) (hx : Passes CX X E) (hs : PySem.W.notFirst X.K C (.ref C) = true) :
    OpR X (compareOp op) (rOwn C sp E) := by
  intro pins s σ H x y u v Q I rx ry h
  obtain ⟨a, dx, fs, b, dy, gs, ex, ha, ey, hb', h⟩ := h
  subst ex
  subst ey
  cases (show u = Value.ref a from rx)
  cases (show v = Value.ref b from ry)
  obtain ⟨oa, Ia⟩ := inst_of I ha
  obtain ⟨ob, Ib⟩ := inst_of I hb'
  obtain ⟨m, Fr⟩ := I.fr
  rw [ho]
  exact PySem.W.cmp_K hr.units0 Fr I.mod.kin Ia Ib.type hs hm.1 hm.2 (run_back (vs := [V.ref a, V.ref b]) F hr hb hx I (.cons rfl (.cons rfl .nil)) h)
end
end L2

namespace L2
open PySem PySem.Spec PyProof.Rows
section
variable {X : Cx} {CX : CXT} {k : Nat} {f C : Addr} {fd : FuncData} {ps : List Str} {sp : Sp} {E : XK}
/-- a callee that lets no exception out where none is wished for -/
theorem passF {P : Program} {w : World} {X : Cx} : Passes (L2.CX P w) X E0 := fun pins σ H s e s' I c => by
  unfold L2.CX at c
  first
    | (obtain ⟨_, _, _, _, _, _, _, _, _, h⟩ := c; exact (by simpa [E0] using h))
    | (exfalso; revert c; simp [E0])
/-- the callee runs inside a builtin -/
theorem run_fn1 {pins : List (Addr × Obj)} {σ : St} {H : Hp} {s : Shared} {Q : VK} {us : List Value} {vs : List V} (F : FnOk X.prog X.w X.K X.mg X.base CX k f fd ps sp) (hr : Room (k + 1) X.A) (hb : Binds X.K fd ps []) (hx : Passes CX X E)
    (I : Inv X pins σ H s) (r : Vals vs us) (h : sp vs H Q E) : wpAny (model X.prog X.w) X.A.in1 (call (.ref f) us) (EP X pins σ Q) X.xe s := by
  have hl : us.length = ps.length := by rw [← r.length]; exact F.len _ _ _ _ h
  have b := hb s us I.kIn (by rw [List.append_nil]; exact hl)
  rw [List.append_nil] at b
  refine wpAny_call (codeAny_mono (F.run X.A.in1 X.stack s H ⟨us, []⟩ us vs Q E hr.in1 I.env0.in1 b r h) fun r s' hq => ?_)
  cases r with
  | error e => exact hx pins σ H s e s' I hq
  | ok fl =>
    cases fl with
    | ret u => exact I.after hq
    | next => exact False.elim hq
    | brk => exact False.elim hq
    | cont => exact False.elim hq
/-- abs(o) -/
def rOwnC (C : Addr) (sp : Sp) (E : XK) : List V → Hp → VK → Prop := fun xs H Q => ∃ a dx fs, xs = [.ref a] ∧ H a = some (.ins C dx fs) ∧ sp xs H Q E
theorem call_absOwn (hm : Meth X.K C "__abs__" f) (F : FnOk X.prog X.w X.K X.mg X.base CX k f fd ps sp) (hr : Room (k + 1) X.A) (hb : Binds X.K fd ps []) (hx : Passes CX X E) : CallR X (.builtin "abs") (rOwnC C sp E) := by
  intro pins s σ H xs us Q I r h
  obtain ⟨a, dx, fs, ex, ha, h⟩ := h
  subst ex
  obtain ⟨u, rfl, r1⟩ := vals1 r
  cases (show u = Value.ref a from r1)
  obtain ⟨oa, Ia⟩ := inst_of I ha
  refine Calls.call_function_entry kind_abs plain_abs entry_abs (args_abs _) ?_
  unfold Builtin.«abs»
  refine wpAny_bind (m := oneArg "abs" _) (wpAny_pure ?_)
  refine wpAny_bind (m := callSpecial? (.ref a) (Str.ofString "__abs__")) (PySem.W.special_fn I.kIn Ia hm.1 (beq_iff_eq.mp hm.2) (wpAny_mono (run_fn1 F hr hb hx I r h) (fun v s' q => ?_) fun _ _ e => e))
  exact wpAny_pure ⟨_, rfl, q⟩
/-- the truth of o by its own __bool__ -/
def rOwnB (C : Addr) (sp : Sp) (E : XK) : List V → Hp → VK → Prop := fun xs H Q => ∃ a dx fs, xs = [.ref a] ∧ H a = some (.ins C dx fs) ∧ sp xs H (fun v H' => ∃ b, v = .bl b ∧ Q v H') E
theorem truthy_own1 {pins : List (Addr × Obj)} {σ : St} {H : Hp} {s : Shared} {a dx : Addr} {fs : List (Str × V)} {R : Bool → Shared → Prop} {Q : Bool → Hp → Prop} (hm : Meth X.K C "__bool__" f) (F : FnOk X.prog X.w X.K X.mg X.base CX k f fd ps sp) (hr : Room (k + 1) X.A) (hb : Binds X.K fd ps []) (hx : Passes CX X E)
    (I : Inv X pins σ H s) (ha : H a = some (.ins C dx fs)) (h : sp [.ref a] H (fun v H' => ∃ b, v = .bl b ∧ Q b H') E) (hR : ∀ b s' H', Inv X pins σ H' s' → Q b H' → R b s') : wpAny (model X.prog X.w) X.A.in1 (truthy (.ref a)) R X.xe s := by
  obtain ⟨oa, Ia⟩ := inst_of I ha
  obtain ⟨m, Fr⟩ := I.fr
  refine PySem.W.truthy_K Fr I.mod.kin Ia hm.1 hm.2 (wpAny_mono (run_fn1 (vs := [V.ref a]) F hr hb hx I (.cons rfl .nil) h) (fun v s' q => ?_) fun _ _ e => e)
  obtain ⟨v', H', I', rv, b, ev, q'⟩ := q
  subst ev
  cases (show v = Value.bool b from rv)
  exact hR b s' H' I' q'
theorem truthy_own0 {pins : List (Addr × Obj)} {σ : St} {H : Hp} {s : Shared} {a dx : Addr} {fs : List (Str × V)} {R : Bool → Shared → Prop} {Q : Bool → Hp → Prop} (hm : Meth X.K C "__bool__" f) (F : FnOk X.prog X.w X.K X.mg X.base CX k f fd ps sp) (hr : Room k X.A) (hb : Binds X.K fd ps []) (hx : Passes CX X E)
    (I : Inv X pins σ H s) (ha : H a = some (.ins C dx fs)) (h : sp [.ref a] H (fun v H' => ∃ b, v = .bl b ∧ Q b H') E) (hR : ∀ b s' H', Inv X pins σ H' s' → Q b H' → R b s') : wpAny (model X.prog X.w) X.A (truthy (.ref a)) R X.xe s := by
  obtain ⟨oa, Ia⟩ := inst_of I ha
  obtain ⟨m, Fr⟩ := I.fr
  refine PySem.W.truthy_K Fr I.mod.kin Ia hm.1 hm.2 (wpAny_mono (run_fn (vs := [V.ref a]) (dvs := []) F hr hb .nil hx I (.cons rfl .nil) h) (fun v s' q => ?_) fun _ _ e => e)
  obtain ⟨v', H', I', rv, b, ev, q'⟩ := q
  subst ev
  cases (show v = Value.bool b from rv)
  exact hR b s' H' I' q'
end
end L2

namespace L2
open PySem PySem.Spec PyProof.Rows
section
variable {X : Cx} {CX : CXT} {k : Nat} {f C : Addr} {fd : FuncData} {ps : List Str} {sp : Sp} {E : XK}
/-- the callee runs inside something -/
theorem run_fnA {A : Around} {pins : List (Addr × Obj)} {σ : St} {H : Hp} {s : Shared} {Q : VK} {us : List Value} {vs : List V} (F : FnOk X.prog X.w X.K X.mg X.base CX k f fd ps sp) (hr : Room k A) (he : Env0 X.prog X.w X.K X.mg X.base A X.stack s H) (hb : Binds X.K fd ps []) (hx : Passes CX X E)
    (I : Inv X pins σ H s) (r : Vals vs us) (h : sp vs H Q E) : wpAny (model X.prog X.w) A (call (.ref f) us) (EP X pins σ Q) X.xe s := by
  have hl : us.length = ps.length := by rw [← r.length]; exact F.len _ _ _ _ h
  have b := hb s us I.kIn (by rw [List.append_nil]; exact hl)
  rw [List.append_nil] at b
  refine wpAny_call (codeAny_mono (F.run A X.stack s H ⟨us, []⟩ us vs Q E hr he b r h) fun r s' hq => ?_)
  cases r with
  | error e => exact hx pins σ H s e s' I hq
  | ok fl =>
    cases fl with
    | ret u => exact I.after hq
    | next => exact False.elim hq
    | brk => exact False.elim hq
    | cont => exact False.elim hq
/-- bool(o) by its own __bool__ -/
theorem call_boolOwn (hm : Meth X.K C "__bool__" f) (F : FnOk X.prog X.w X.K X.mg X.base CX k f fd ps sp) (hr : Room (k + 2) X.A) (hb : Binds X.K fd ps []) (hx : Passes CX X E) : CallR X (.type "bool") (rOwnB C sp E) := by
  intro pins s σ H xs us Q I r h
  obtain ⟨a, dx, fs, ex, ha, h⟩ := h
  subst ex
  obtain ⟨u, rfl, r1⟩ := vals1 r
  cases (show u = Value.ref a from r1)
  obtain ⟨oa, Ia⟩ := inst_of I ha
  obtain ⟨m, Fr⟩ := I.fr
  refine callType_newIn (S := fun A R s' => A = X.A.in1 ∧ s' = s ∧ (∀ b s1 H1, Inv X pins σ H1 s1 → Q (.bl b) H1 → R (.ok (.ret (.bool b))) s1) ∧ ∀ e s1, X.xe e s1 → R (.error e) s1) PySem.F.called_bool PySem.F.newNe_bool (PySem.F.typeCall_bool_1 _) (PySem.F.newCall_bool_1 _) (fun obj => PySem.F.args_object_init_2 obj _) PySem.F.entry_bool_new ?_ ?_
  · refine .of_wp fun A R s' hS => ?_
    obtain ⟨rfl, rfl, hR, hE⟩ := hS
    have T : wpAny (model X.prog X.w) X.A.in1.in1 (truthy (.ref a)) (fun b s1 => R (.ok (.ret (.bool b))) s1) (fun e s1 => R (.error e) s1) s' := by
      refine wpAny_mono (PySem.W.truthy_K (Q := fun b s1 => R (.ok (.ret (.bool b))) s1) Fr I.mod.kin Ia hm.1 hm.2 (wpAny_mono (run_fnA (vs := [V.ref a]) F (Room.in1 (k := k) (Room.in1 hr)) I.env0.in1.in1 hb hx I (.cons rfl .nil) h) (fun v s' q => ?_) fun _ _ e => e)) (fun _ _ z => z) fun e s1 z => hE e s1 z
      obtain ⟨v', H', I', rv, b, ev, q'⟩ := q
      subst ev
      cases (show v = Value.bool b from rv)
      exact hR b s' H' I' q'
    obtain ⟨hp, g, d, tk, os⟩ := s'
    have f1 := PySem.F.conv_sub_bool
    unfold Builtin.«bool.__new__»
    repeat (any_goals (first | assumption | (with_reducible refine wpAny_bind (wpAny_mono T (fun b s1 z => ?_) fun _ _ z => z)) | wp_step))
    all_goals first | exact ⟨_, rfl, z⟩ | skip
  · exact ⟨rfl, rfl, fun b s1 H1 I1 q => ⟨rfl, .bl b, H1, I1, rfl, q⟩, fun e s1 z => z⟩
end
end L2

namespace PySem.W
open PySem PySem.Calls PyProof.Rows
section
variable {prog : Program} {w : World} {A : Around} {E : Value → Shared → Prop} {s : Shared} {K : Frag} {x C f : Addr} {ox : Obj} {od : Option Obj}
/-- n OP o: the int declines, then o's own reflected method -/
theorem rx_refl {op : Operator} {n : Int} {t : Tok} {idl : String} {B : Builtin} {Q : Value → Shared → Prop} (X : K.In s.heap) (I : InstAt s.heap x ox C od) (hc : selfFirst K C = true)
    (hs : findIn K (.ref C) (dunderR op.info.2) = some (some (.ref f))) (hf : isFn K (.ref f) = true) (hfn : Looks (model prog w) s.heap (fillsNumberSlot (.ref C) op.info.2) true)
    (hfT : fillsNumberSlot (.type "int") op.info.2 = pure true) (hsub : subIn K (.ref C) (.type "int") = some false) (hl : Slot "int" (PySem.dunder op.info.2) idl)
    (entry : entryFor table idl = some B) (args : argsOk idl ⟨[.int n t, .ref x], []⟩) (hB : ∀ (A : Around) (Q : Fin → Shared → Prop) (E : Value → Shared → Prop), Q (.done (.ret .notImplemented)) s → wpAny (model prog w) A (B ⟨[.int n t, .ref x], []⟩) Q E s)
    (h : wpAny (model prog w) A (call (.ref f) [.ref x, .int n t]) (CmpBack Q) E s) : wpAny (model prog w) A (binaryOp op (.int n t) (.ref x)) Q E s := by
  rcases hi : op.info with ⟨sym, nm⟩
  rw [hi] at hs hfn hfT hl
  dsimp only at hs hfn hfT hl
  simp only [binaryOp, hi]
  refine wpAny_holding (wpAny_bind ?_)
  unfold binaryOp1
  refine wpAny_bind (wpAny_typeOf (typeIs_int s n t) (wpAny_bind (I.type.here (wpAny_bind (wpAny_of_eq hfT ?_)))))
  have hne : (Value.type "int" == Value.ref C) = false := Bool.eq_false_iff.mpr fun q => by cases beq_iff_eq.mp q
  simp only [hne, Bool.false_eq_true, if_false]
  refine wpAny_bind (hfn.here ?_)
  simp only [Bool.and_self, if_true]
  refine wpAny_bind ((looks_subIn X hsub).here ?_)
  have hpy : numberSlotInPython (.type "int") nm = pure false := rfl
  simp only [Bool.false_eq_true, if_false, pure_bind, Bool.not_false, Bool.and_self, if_true, hpy]
  refine wpAny_bind (wpAny_tryMethod_declines (typeIs_int s n t) hl (wpAny_call_entry hl (typeIs_int s n t) entry (hB _ _ _ ⟨_, rfl, rfl, ?_⟩) args))
  refine wpAny_bind (wpAny_mono (ksp_try (Q := Q) X I hs hf h) (fun r s' hr => ?_) fun _ _ e => e)
  obtain ⟨v, rfl, hq⟩ := hr
  exact wpAny_bind (wpAny_rule (wpAny_pure (wpAny_pure hq)))
end
end PySem.W

namespace PySem.W
open PySem PySem.Calls PyProof.Rows
section
variable {prog : Program} {w : World} {A : Around} {E : Value → Shared → Prop} {s : Shared} {K : Frag} {x C f : Addr} {ox : Obj} {od : Option Obj}
theorem rx_asInt {Q : Option Int → Shared → Prop} (hx : s.heap.get? x = some (instObj C f)) (q : Q none s) : wpAny (model prog w) A (asInt? (.ref x)) Q E s := by
  obtain ⟨hp, g, d, tk, os⟩ := s
  unfold asInt?
  refine wpAny_bind ?_
  refine wpAny_load hx ?_
  exact wpAny_pure q
theorem rx_mulDeclines {n : Int} {t : Tok} {Q : Fin → Shared → Prop} (hx : s.heap.get? x = some (instObj C f)) (q : Q (.done (.ret .notImplemented)) s) :
    wpAny (model prog w) A (Builtin.«int.__mul__» ⟨[.int n t, .ref x], []⟩) Q E s := by
  have key : ∀ {Q : Option Int → Shared → Prop}, Q none s → wpAny (model prog w) A (asInt? (.ref x)) Q E s := fun q => rx_asInt hx q
  show wpAny _ _ (asInt? (.ref x) >>= _) _ _ _
  refine wpAny_bind (key ?_)
  exact wpAny_bind (wpAny_rule (wpAny_pure q))
end
section
variable {prog : Program} {w : World} {A : Around} {E : Value → Shared → Prop} {s : Shared} {K : Frag} {x C f : Addr} {ox : Obj} {od : Option Obj}
/-- the class's whole row of bases: itself, object -/
def mro2 (K : Frag) (C : Addr) : Bool := (clsIn K C).any fun cd => decide (cd.mro = [.ref C, .type "object"])
theorem mro2_of (h : mro2 K C = true) : ∃ cd, clsIn K C = some cd ∧ cd.mro = [.ref C, .type "object"] := by
  obtain ⟨cd, hcd, hm⟩ := any_some h
  exact ⟨cd, hcd, of_decide_eq_true hm⟩
theorem mro2_first (h : mro2 K C = true) : selfFirst K C = true := by
  obtain ⟨cd, hcd, hm⟩ := mro2_of h
  unfold selfFirst
  rw [hcd]
  show (cd.mro.head? == some (.ref C)) = true
  rw [hm]
  simp
theorem rx_inplNone {M : Model} {h : Heap} {nm : String} {add : Bool} (X : K.In h) (hm : mro2 K C = true) (h1 : findIn K (.ref C) (dunderI nm) = some none) (h2 : findIn K (.type "object") (dunderI nm) = some none) :
    Looks M h (fillsInplaceSlot (.ref C) nm add) false := by
  obtain ⟨cd, hcd, hmr⟩ := mro2_of hm
  intro A Q E s k q
  have Lm : Looks M h (mroOf (.ref C)) cd.mro := (looks_clsIn X hcd).andThen (f := fun cd => pure cd.mro) .now
  have Lm' := Lm.keeps k
  obtain ⟨hh, g, d, tt, os⟩ := s
  have X' : K.In hh := X.keeps k
  have L1 : Looks M hh (typeLookup (.ref C) (dunderI nm)) none := looks_findIn X' h1
  have L2 : Looks M hh (typeLookup (.type "object") (dunderI nm)) none := looks_findIn X' h2
  unfold fillsInplaceSlot
  refine wpAny_bind (Lm'.at ?_)
  rw [hmr, List.anyM_cons]
  refine wpAny_bind ?_
  refine wpAny_bind (L1.at ?_)
  refine wpAny_pure ?_
  simp only [Bool.false_eq_true, if_false]
  rw [List.anyM_cons]
  refine wpAny_bind ?_
  refine wpAny_bind (L2.at ?_)
  refine wpAny_pure ?_
  simp only [Bool.false_eq_true, if_false]
  exact wpAny_pure q
/-- a OP= b of two own things by the plain method -/
theorem rx_inpl {op : Operator} {b : Value} {Q : Value → Shared → Prop} (X : K.In s.heap) (I : InstAt s.heap x ox C od) (hb : Looks (model prog w) s.heap (typeOf b) (.ref C)) (hm : mro2 K C = true)
    (h1 : findIn K (.ref C) (dunderI op.info.2) = some none) (h2 : findIn K (.type "object") (dunderI op.info.2) = some none)
    (hs : findIn K (.ref C) (PySem.dunder op.info.2) = some (some (.ref f))) (hf : isFn K (.ref f) = true)
    (h : wpAny (model prog w) A (call (.ref f) [.ref x, b]) (CmpBack Q) E s) : wpAny (model prog w) A (inplaceOp op (.ref x) b) Q E s := by
  obtain ⟨cd, hcd, hmr⟩ := mro2_of hm
  have L0 := rx_inplNone (M := model prog w) (nm := op.info.2) (add := (op == .Add)) X hm h1 h2
  have L3 : Looks (model prog w) s.heap (fillsNumberSlot (.ref C) op.info.2) true := fills_K X hcd hmr hs
  have one := ksp_try (Q := Q) X I hs hf h
  generalize hnm : op.info.2 = nm at *
  unfold inplaceOp
  rw [hnm]
  refine wpAny_holding (wpAny_bind (I.type.here (wpAny_bind (L0.here ?_))))
  rw [if_neg Bool.false_ne_true]
  refine wpAny_bind ?_
  unfold binaryOp1
  refine wpAny_bind (I.type.here (wpAny_bind (hb.here (wpAny_bind (L3.here ?_)))))
  simp only [beq_self_eq_true, if_true]
  refine wpAny_bind (wpAny_pure ?_)
  simp only [Bool.and_false, Bool.false_eq_true, if_false, Bool.false_and]
  refine wpAny_bind (wpAny_pure ?_)
  simp only [Bool.false_eq_true, if_false]
  refine wpAny_bind (wpAny_mono one (fun r s' hr => ?_) fun _ _ e => e)
  obtain ⟨v, rfl, hq⟩ := hr
  exact wpAny_pure (wpAny_pure hq)
end
end PySem.W

namespace L2
open PySem PySem.Spec PyProof.Rows
section
variable {X : Cx} {CX : CXT} {k : Nat} {f C : Addr} {fd : FuncData} {ps : List Str} {sp : Sp} {E : XK}
/-- a OP= b, both of the class at C -/
theorem iop_own {op : Operator} (hm : Meth X.K C (PySem.dunder op.info.2) f) (hs : PySem.W.mro2 X.K C = true) (h1 : PySem.W.findIn X.K (.ref C) (dunderI op.info.2) = some none) (h2 : PySem.W.findIn X.K (.type "object") (dunderI op.info.2) = some none)
    (F : FnOk X.prog X.w X.K X.mg X.base CX k f fd ps sp) (hr : Room k X.A) (hb : Binds X.K fd ps []) (hx : Passes CX X E) :
    PIp X op (rOwn C sp E) := by
  intro pins s σ H x y u v Q I rx ry h
  obtain ⟨a, dx, fs, b, dy, gs, ex, ha, ey, hb', h⟩ := h
  subst ex
  subst ey
  cases (show u = Value.ref a from rx)
  cases (show v = Value.ref b from ry)
  obtain ⟨oa, Ia⟩ := inst_of I ha
  obtain ⟨ob, Ib⟩ := inst_of I hb'
  exact PySem.W.rx_inpl I.kIn Ia Ib.type hs h1 h2 hm.1 hm.2 (run_back (vs := [V.ref a, V.ref b]) F hr hb hx I (.cons rfl (.cons rfl .nil)) h)
/-- the class C fills the number slot nm by its own method -/
theorem fills_of {M : Model} {h : Heap} {nm : String} {g : Addr} (KX : X.K.In h) (hs : PySem.W.mro2 X.K C = true) (hm : Meth X.K C (PySem.dunder nm) g) : PySem.W.Looks M h (fillsNumberSlot (.ref C) nm) true := by
  obtain ⟨cd, hcd, hmr⟩ := PySem.W.mro2_of hs
  exact PySem.W.fills_K KX hcd hmr hm.1
/-- n * o -/
def rROwn (C : Addr) (sp : Sp) (E : XK) : R2 := fun x y H Q => ∃ n b dy gs, x = .int n ∧ y = .ref b ∧ H b = some (.ins C dy gs) ∧ sp [y, x] H Q E
theorem op_mulR {g : Addr} (hm : Meth X.K C "__rmul__" f) (hm2 : Meth X.K C "__mul__" g) (hs : PySem.W.mro2 X.K C = true) (hsub : PySem.W.subIn X.K (.ref C) (.type "int") = some false)
    (F : FnOk X.prog X.w X.K X.mg X.base CX k f fd ps sp) (hr : Room k X.A) (hb : Binds X.K fd ps []) (hx : Passes CX X E) :
    OpR X (binaryOp .Mult) (rROwn C sp E) := by
  intro pins s σ H x y u v Q I rx ry h
  obtain ⟨n, b, dy, gs, ex, ey, hb', h⟩ := h
  subst ex
  subst ey
  obtain ⟨t, rfl⟩ := (show ∃ t, u = Value.int n t from rx)
  cases (show v = Value.ref b from ry)
  obtain ⟨ob, Ib⟩ := inst_of I hb'
  refine PySem.W.rx_refl (op := .Mult) (idl := "int.__mul__") I.kIn Ib (PySem.W.mro2_first hs) hm.1 hm.2 (fills_of I.kIn hs hm2) fills_int_mul hsub slot_int_mul entry_int_mul (args_int_mul _ _) (fun A Q E q => PySem.W.rx_mulDeclines Ib.1 q) ?_
  exact run_back (vs := [V.ref b, V.int n]) F hr hb hx I (.cons rfl (.cons ⟨t, rfl⟩ .nil)) h
end
/-! ### division that may raise -/
section
variable {prog : Program} {w : World} {A : Around} {E : Value → Shared → Prop} {s : Shared} {a : Int} {t u : Tok} {Q : Value → Shared → Prop}
theorem fdiv_zero (hh : A.handled = none) (h : ∀ h' tk e, Heap.NewExc s.heap h' e "ZeroDivisionError" → E (.ref e) { s with heap := h', toks := tk }) :
    wpAny (model prog w) A (binaryOp .FloorDiv (.int a t) (.int 0 u)) Q E s := by
  refine wpAny_binaryOp_same (op := .FloorDiv) (T := "int") (typeIs_int s a t) (typeIs_int s 0 u) fills_int_floordiv slot_int_floordiv ?_
  refine wpAny_call_entry slot_int_floordiv (typeIs_int s a t) entry_int_floordiv ?_ (args_int_floordiv _ _)
  show wpAny _ _ (do
    if (0 : Int) == 0 then rule "int.floordiv.zero"; raiseError "ZeroDivisionError" "integer division or modulo by zero"
    Builtin.roomForPylong a 0
    ret (← mkInt (a.fdiv 0))) _ _ s
  simp only [beq_self_eq_true, if_true]
  exact wpAny_bind (wpAny_rule (wpAny_bind (raiseErrorWords_exc excClass_ZeroDivisionError hh h)))
theorem mod_zero (hh : A.handled = none) (h : ∀ h' tk e, Heap.NewExc s.heap h' e "ZeroDivisionError" → E (.ref e) { s with heap := h', toks := tk }) :
    wpAny (model prog w) A (binaryOp .Mod (.int a t) (.int 0 u)) Q E s := by
  refine wpAny_binaryOp_same (op := .Mod) (T := "int") (typeIs_int s a t) (typeIs_int s 0 u) PyProof.Rows.fills_int_mod PyProof.Rows.slot_int_mod ?_
  refine wpAny_call_entry PyProof.Rows.slot_int_mod (typeIs_int s a t) PyProof.Rows.entry_int_mod ?_ (PyProof.Rows.args_int_mod _ _)
  show wpAny _ _ (do
    if (0 : Int) == 0 then rule "int.mod.zero"; raiseError "ZeroDivisionError" "integer modulo by zero"
    ret (← mkInt (a.fmod 0))) _ _ s
  simp only [beq_self_eq_true, if_true]
  exact wpAny_bind (wpAny_rule (wpAny_bind (raiseErrorWords_exc excClass_ZeroDivisionError hh h)))
end
section
variable {X : Cx} {W : WX} {a b : Expr} {ta tb : TE} {pos : Pos}
/-- a // b: the quotient (a divisor below 2 ^ 9000), or a ZeroDivisionError -/
def tFdX (W : WX) (ta tb : TE) : TE := fun σ H Q => ta σ H fun x H1 => tb σ H1 fun y H2 => ∃ i j, x = .int i ∧ y = .int j ∧ ((j ≠ 0 ∧ j.natAbs.log2 < 9000 ∧ Q (.int (i.fdiv j)) H2) ∨ (j = 0 ∧ ∀ d, W (.type "ZeroDivisionError") d σ H2))
theorem pe_fdivX (hc : X.calm = true) (tk : Takes X W) (ha : PE X a ta) (hb : PE X b tb) : PE X (.BinOp a .FloorDiv b pos) (tFdX W ta tb) := by
  refine ⟨fun pins s σ H Q I h => ?_⟩
  refine wpAny_BinOp (binT ha hb I (R := fun x y H2 => ∃ i j, x = .int i ∧ y = .int j ∧ ((j ≠ 0 ∧ j.natAbs.log2 < 9000 ∧ Q (.int (i.fdiv j)) H2) ∨ (j = 0 ∧ ∀ d, W (.type "ZeroDivisionError") d σ H2))) h fun v u s2 x y H2 I2 rx ry q => ?_)
  obtain ⟨i, j, ex, ey, q⟩ := q
  subst ex
  subst ey
  obtain ⟨t, rfl⟩ := (show ∃ t, v = Value.int i t from rx)
  obtain ⟨t', rfl⟩ := (show ∃ t, u = Value.int j t from ry)
  rcases q with ⟨hj, hl, q⟩ | ⟨hj, q⟩
  · exact floordiv_int hj ⟨.int (i.fdiv j), H2, I2.tok _, ⟨_, rfl⟩, q⟩ (.inl (PyProof.noPylong_of_log2 hl))
  · subst hj
    exact fdiv_zero (I2.ok.hd hc) fun h' tk' e hx => takes_new (t' := tk') tk I2 hx q
def tModX (W : WX) (ta tb : TE) : TE := fun σ H Q => ta σ H fun x H1 => tb σ H1 fun y H2 => ∃ i j, x = .int i ∧ y = .int j ∧ ((j ≠ 0 ∧ Q (.int (i.fmod j)) H2) ∨ (j = 0 ∧ ∀ d, W (.type "ZeroDivisionError") d σ H2))
theorem pe_modX (hc : X.calm = true) (tk : Takes X W) (ha : PE X a ta) (hb : PE X b tb) : PE X (.BinOp a .Mod b pos) (tModX W ta tb) := by
  refine ⟨fun pins s σ H Q I h => ?_⟩
  refine wpAny_BinOp (binT ha hb I (R := fun x y H2 => ∃ i j, x = .int i ∧ y = .int j ∧ ((j ≠ 0 ∧ Q (.int (i.fmod j)) H2) ∨ (j = 0 ∧ ∀ d, W (.type "ZeroDivisionError") d σ H2))) h fun v u s2 x y H2 I2 rx ry q => ?_)
  obtain ⟨i, j, ex, ey, q⟩ := q
  subst ex
  subst ey
  obtain ⟨t, rfl⟩ := (show ∃ t, v = Value.int i t from rx)
  obtain ⟨t', rfl⟩ := (show ∃ t, u = Value.int j t from ry)
  rcases q with ⟨hj, q⟩ | ⟨hj, q⟩
  · exact mod_int' hj ⟨.int (i.fmod j), H2, I2.tok _, ⟨_, rfl⟩, q⟩
  · subst hj
    exact mod_zero (I2.ok.hd hc) fun h' tk' e hx => takes_new (t' := tk') tk I2 hx q
end
section
variable {X : Cx} {CX : CXT} {k : Nat} {f C : Addr} {fd : FuncData} {ps : List Str} {sp : Sp} {E : St → XK} {a b : Expr} {ta tb : TE} {pos : Pos}
/-- a OP b, both of the class at C; what is raised is wished for at the slots -/
def tOwnS (C : Addr) (sp : Sp) (E : St → XK) (ta tb : TE) : TE := fun σ H Q => ta σ H fun x H1 => tb σ H1 fun y H2 => rOwn C sp (E σ) x y H2 Q
theorem pe_ownS {op : Operator} (hm : Meth X.K C (PySem.dunder op.info.2) f) (hs : PySem.W.selfFirst X.K C = true) (F : FnOk X.prog X.w X.K X.mg X.base CX k f fd ps sp) (hr : Room k X.A) (hb : Binds X.K fd ps []) (hx : ∀ σ, PassesAt CX X σ (E σ)) (ha : PE X a ta) (hb2 : PE X b tb) :
    PE X (.BinOp a op b pos) (tOwnS C sp E ta tb) := by
  refine ⟨fun pins s σ H Q I h => ?_⟩
  refine wpAny_BinOp (binT ha hb2 I (R := fun x y H2 => rOwn C sp (E σ) x y H2 Q) h fun v u s2 x y H2 I2 rx ry q => ?_)
  obtain ⟨a, dx, fs, b, dy, gs, ex, ha, ey, hb', h⟩ := q
  subst ex
  subst ey
  cases (show v = Value.ref a from rx)
  cases (show u = Value.ref b from ry)
  obtain ⟨oa, Ia⟩ := inst_of I2 ha
  obtain ⟨ob, Ib⟩ := inst_of I2 hb'
  obtain ⟨m, Fr⟩ := I2.fr
  refine PySem.W.binop_K Fr I2.mod.kin Ia Ib.type hs hm.1 hm.2 (wpAny_mono (run_fnS (vs := [V.ref a, V.ref b]) F hr hb (hx σ) I2 (.cons rfl (.cons rfl .nil)) h) (fun v s' q => ?_) fun _ _ e => e)
  obtain ⟨v', H', I', rv, q'⟩ := q
  exact cmpBack_of (relV_notImpl rv) ⟨v', H', I', rv, q'⟩
end
end L2

namespace PySem.W
open PySem PySem.Calls PyProof.Rows
section
variable {prog : Program} {w : World} {A : Around} {E : Value → Shared → Prop} {s : Shared} {K : Frag} {x C f : Addr} {ox : Obj} {od : Option Obj}
/-- what the class at C and int say of the number slot nm -/
structure NumI (K : Frag) (C : Addr) (nm : String) : Prop where
  rc : findIn K (.ref C) (dunderR nm) = some none ∨ ∃ g : Addr, findIn K (.ref C) (dunderR nm) = some (some (.ref g))
  h1 : ∃ fo, findIn K (.type "int") (PySem.dunder nm) = some fo
  h2 : ∃ ro, findIn K (.type "int") (dunderR nm) = some ro
  sub : subIn K (.type "int") (.ref C) = some false
def numIB (K : Frag) (C : Addr) (nm : String) : Bool := (match findIn K (.ref C) (dunderR nm) with
  | some none => true
  | some (some (.ref _)) => true
  | _ => false) && ((findIn K (.type "int") (PySem.dunder nm)).isSome && ((findIn K (.type "int") (dunderR nm)).isSome && decide (subIn K (.type "int") (.ref C) = some false)))
theorem numI_ok {nm : String} (h : numIB K C nm = true) : NumI K C nm := by
  obtain ⟨h1, h⟩ := Bool.and_eq_true_iff.mp h
  obtain ⟨h2, h⟩ := Bool.and_eq_true_iff.mp h
  obtain ⟨h3, h4⟩ := Bool.and_eq_true_iff.mp h
  refine ⟨?_, Option.isSome_iff_exists.mp h2, Option.isSome_iff_exists.mp h3, of_decide_eq_true h4⟩
  cases e : findIn K (.ref C) (dunderR nm) with
  | none => rw [e] at h1; cases h1
  | some o =>
    rw [e] at h1
    cases o with
    | none => exact .inl rfl
    | some v =>
      cases v with
      | ref g => exact .inr ⟨g, rfl⟩
      | _ => cases h1
theorem rx_binI {op : Operator} {n : Int} {t : Tok} {h₀ : Heap} {L : Addr} {m : Str → Option Value} {Q : Value → Shared → Prop} (F : Fr h₀ L s.heap m) (X₀ : K.In h₀) (I : InstAt s.heap x ox C od) (hc : selfFirst K C = true) (N : NumI K C op.info.2)
    (hs : findIn K (.ref C) (PySem.dunder op.info.2) = some (some (.ref f))) (hf : isFn K (.ref f) = true)
    (h : wpAny (model prog w) A (call (.ref f) [.ref x, .int n t]) (CmpBack Q) E s) : wpAny (model prog w) A (binaryOp op (.ref x) (.int n t)) Q E s := by
  obtain ⟨rc, ⟨fo, h1⟩, ⟨ro, h2⟩, hsub⟩ := N
  rcases rc with rc | ⟨g, rc⟩
  · exact ksp_binT F X₀ I (T := "int") rfl hc hs hf rc (.inl rfl) h1 h2 hsub h
  · exact ksp_binT F X₀ I (T := "int") rfl hc hs hf rc (.inr ⟨g, rfl⟩) h1 h2 hsub h
theorem rx_inplI {op : Operator} {n : Int} {t : Tok} {Q : Value → Shared → Prop} (X : K.In s.heap) (I : InstAt s.heap x ox C od) (hm : mro2 K C = true) (N : NumI K C op.info.2)
    (h1 : findIn K (.ref C) (dunderI op.info.2) = some none) (h2 : findIn K (.type "object") (dunderI op.info.2) = some none)
    (hs : findIn K (.ref C) (PySem.dunder op.info.2) = some (some (.ref f))) (hf : isFn K (.ref f) = true)
    (h : wpAny (model prog w) A (call (.ref f) [.ref x, .int n t]) (CmpBack Q) E s) : wpAny (model prog w) A (inplaceOp op (.ref x) (.int n t)) Q E s := by
  obtain ⟨cd, hcd, hmr⟩ := mro2_of hm
  obtain ⟨rc, ⟨fo, k1⟩, ⟨ro, k2⟩, hsub⟩ := N
  have L0 := rx_inplNone (M := model prog w) (nm := op.info.2) (add := (op == .Add)) X hm h1 h2
  have L3 : Looks (model prog w) s.heap (fillsNumberSlot (.ref C) op.info.2) true := fills_K X hcd hmr hs
  have L4 : Looks (model prog w) s.heap (fillsNumberSlot (.type "int") op.info.2) ((fo.isSome && !isSeqSlot fo) || (ro.isSome && !isSeqSlot ro)) := ksp_fillsT X k1 k2
  have L5 : Looks (model prog w) s.heap (isSubtype (.type "int") (.ref C)) false := looks_subIn X hsub
  have L6 : Looks (model prog w) s.heap (numberSlotInPython (.ref C) op.info.2) true := by
    rcases rc with rc | ⟨g, rc⟩
    · exact ksp_inPy X hs rc (.inl rfl)
    · exact ksp_inPy X hs rc (.inr ⟨g, rfl⟩)
  have L7 : Looks (model prog w) s.heap (numberSlotInPython (.type "int") op.info.2) false := Looks.of_pure rfl
  have L8 : Looks (model prog w) s.heap (typeLookup (.type "int") (dunderR op.info.2)) ro := looks_findIn X k2
  have one := ksp_try (Q := Q) X I hs hf h
  have hne : (Value.ref C == Value.type "int") = false := Bool.eq_false_iff.mpr fun q => by cases beq_iff_eq.mp q
  generalize ((fo.isSome && !isSeqSlot fo) || (ro.isSome && !isSeqSlot ro)) = right at L4
  generalize hnm : op.info.2 = nm at *
  unfold inplaceOp
  rw [hnm]
  refine wpAny_holding (wpAny_bind (I.type.here (wpAny_bind (L0.here ?_))))
  rw [if_neg Bool.false_ne_true]
  refine wpAny_bind ?_
  unfold binaryOp1
  refine wpAny_bind (I.type.here (wpAny_bind (wpAny_typeOf (typeIs_int s n t) (wpAny_bind (L3.here ?_)))))
  simp only [hne, Bool.false_eq_true, if_false]
  cases right with
  | false =>
    refine wpAny_bind (L4.here ?_)
    simp only [Bool.and_false, Bool.false_eq_true, if_false, Bool.false_and]
    refine wpAny_bind (wpAny_pure ?_)
    simp only [Bool.false_eq_true, if_false, if_true]
    refine wpAny_bind (wpAny_mono one (fun r s' hr => ?_) fun _ _ e => e)
    obtain ⟨v, rfl, hq⟩ := hr
    exact wpAny_pure (wpAny_pure hq)
  | true =>
    refine wpAny_bind (L4.here ?_)
    simp only [Bool.and_self, if_true]
    refine wpAny_bind (L5.here ?_)
    simp only [Bool.false_eq_true, if_false, Bool.not_false, Bool.and_self, if_true]
    refine wpAny_bind (L6.here ?_)
    simp only [if_true]
    refine wpAny_bind (L7.here ?_)
    simp only [Bool.not_false, if_true]
    refine wpAny_bind (L8.here ?_)
    refine wpAny_bind (wpAny_mono one (fun r s' hr => ?_) fun _ _ e => e)
    obtain ⟨v, rfl, hq⟩ := hr
    exact wpAny_pure (wpAny_pure hq)
end
end PySem.W
namespace L2
open PySem PySem.Spec PyProof.Rows
section
variable {X : Cx} {CX : CXT} {k : Nat} {f C : Addr} {fd : FuncData} {ps : List Str} {sp : Sp} {E : XK}
/-- o OP n -/
def rOwnI (C : Addr) (sp : Sp) (E : XK) : R2 := fun x y H Q => ∃ a dx fs n, x = .ref a ∧ H a = some (.ins C dx fs) ∧ y = .int n ∧ sp [x, y] H Q E
theorem op_ownI {op : Operator} (hm : Meth X.K C (PySem.dunder op.info.2) f) (hs : PySem.W.mro2 X.K C = true) (N : PySem.W.NumI X.K C op.info.2) (F : FnOk X.prog X.w X.K X.mg X.base CX k f fd ps sp) (hr : Room k X.A) (hb : Binds X.K fd ps []) (hx : Passes CX X E) :
    OpR X (binaryOp op) (rOwnI C sp E) := by
  intro pins s σ H x y u v Q I rx ry h
  obtain ⟨a, dx, fs, n, ex, ha, ey, h⟩ := h
  subst ex
  subst ey
  cases (show u = Value.ref a from rx)
  obtain ⟨t, rfl⟩ := (show ∃ t, v = Value.int n t from ry)
  obtain ⟨oa, Ia⟩ := inst_of I ha
  obtain ⟨m, Fr⟩ := I.fr
  exact PySem.W.rx_binI Fr I.mod.kin Ia (PySem.W.mro2_first hs) N hm.1 hm.2 (run_back (vs := [V.ref a, V.int n]) F hr hb hx I (.cons rfl (.cons ⟨t, rfl⟩ .nil)) h)
theorem iop_ownI {op : Operator} (hm : Meth X.K C (PySem.dunder op.info.2) f) (hs : PySem.W.mro2 X.K C = true) (N : PySem.W.NumI X.K C op.info.2) (h1 : PySem.W.findIn X.K (.ref C) (dunderI op.info.2) = some none) (h2 : PySem.W.findIn X.K (.type "object") (dunderI op.info.2) = some none)
    (F : FnOk X.prog X.w X.K X.mg X.base CX k f fd ps sp) (hr : Room k X.A) (hb : Binds X.K fd ps []) (hx : Passes CX X E) :
    PIp X op (rOwnI C sp E) := by
  intro pins s σ H x y u v Q I rx ry h
  obtain ⟨a, dx, fs, n, ex, ha, ey, h⟩ := h
  subst ex
  subst ey
  cases (show u = Value.ref a from rx)
  obtain ⟨t, rfl⟩ := (show ∃ t, v = Value.int n t from ry)
  obtain ⟨oa, Ia⟩ := inst_of I ha
  exact PySem.W.rx_inplI I.kIn Ia hs N h1 h2 hm.1 hm.2 (run_back (vs := [V.ref a, V.int n]) F hr hb hx I (.cons rfl (.cons ⟨t, rfl⟩ .nil)) h)
/-- // by any divisor but 0 below 2 ^ 9000 -/
def CDivZ (_ j : Int) : Prop := j ≠ 0 ∧ j.natAbs.log2 < 9000
theorem op_fdivZ : OpR X (binaryOp .FloorDiv) (rI CDivZ fun i j => .int (i.fdiv j)) := opI fun i j _ _ _ _ _ hc q => floordiv_int hc.1 q (.inl (PyProof.noPylong_of_log2 hc.2))
end
/-- what isinstance asks of an own class -/
structure OwnTy (K : PySem.W.Frag) (C : Addr) : Prop where
  ha : PySem.W.findIn K (.ref C) "__class__" = some (some (.builtin "object.__class__"))
  hn : PySem.W.specialIn K (.builtin "object.__class__") "__get__" = some (some (.builtin "getset_descriptor.__get__"))
  ht : PySem.W.takesIn K (.builtin "object.__class__") = some true
  hm : PySem.W.mroIn K C (.type "object") = some true
def ownTyB (K : PySem.W.Frag) (C : Addr) : Bool := He.eqO (PySem.W.findIn K (.ref C) "__class__") (some (some (.builtin "object.__class__"))) && (He.eqO (PySem.W.specialIn K (.builtin "object.__class__") "__get__") (some (some (.builtin "getset_descriptor.__get__"))) &&
  (decide (PySem.W.takesIn K (.builtin "object.__class__") = some true) && decide (PySem.W.mroIn K C (.type "object") = some true)))
theorem ownTy_ok {K : PySem.W.Frag} {C : Addr} (h : ownTyB K C = true) : OwnTy K C := by
  obtain ⟨h1, h⟩ := Bool.and_eq_true_iff.mp h
  obtain ⟨h2, h⟩ := Bool.and_eq_true_iff.mp h
  obtain ⟨h3, h4⟩ := Bool.and_eq_true_iff.mp h
  exact ⟨He.eqO_ok h1, He.eqO_ok h2, of_decide_eq_true h3, of_decide_eq_true h4⟩
theorem tyx_own {K : PySem.W.Frag} {H : Hp} {C a dx : Addr} {fs : List (Str × V)} (e : H a = some (.ins C dx fs)) (cl : Cls K C) (o : OwnTy K C) : TyX K H (.ref a) (.ref C) := .base (.ins e cl o.ha o.hn o.ht o.hm)
end L2

/-! frames: what stays of the heap -/
namespace L2
open PySem PySem.Spec PyProof.Rows
theorem Same.new {H : Hp} {p : Addr} {o : HO} (h : H p = none) : Same H (upd H p o) := fun b u e => by rw [upd_ne (ne_of_none e h)]; exact e
theorem Same.put {H H' : Hp} {p : Addr} {o : HO} (s : Same H H') (h : H p = none) : Same H (upd H' p o) := fun b u e => by rw [upd_ne (ne_of_none e h)]; exact s b u e
/-- a new instance that was filled -/
theorem same_make {H : Hp} {p dp : Addr} {o1 o2 o3 : HO} (hp : H p = none) (hd : H dp = none) : Same H (upd (upd (upd H dp o1) p o2) p o3) := ((Same.new hd).put hp).put hp
/-- the names of a whole object's attributes -/
def wholeN : List (List Str) := [["amount"], ["at"], ["lengths", "start"], ["start", "stop", "held"], ["period", "rise", "steps"], ["layers", "made"], ["kept", "sign", "asked", "made"], ["low", "high"]]
/-- a thing that never changes: a tuple, a locked thing, a whole object -/
def imm : HO → Bool
  | .tup _ => true
  | .frz _ _ => true
  | .ins _ _ fs => decide (fs.map (·.1) ∈ wholeN)
  | _ => false
/-- what never changes is as it was -/
def Kp (H H' : Hp) : Prop := ∀ b o, H b = some o → imm o = true → H' b = some o
theorem Kp.refl (H : Hp) : Kp H H := fun _ _ e _ => e
theorem Kp.trans {H H1 H2 : Hp} (a : Kp H H1) (b : Kp H1 H2) : Kp H H2 := fun c o e i => b c o (a c o e i) i
theorem Same.kp {H H' : Hp} (s : Same H H') : Kp H H' := fun b o e _ => s b o e
theorem Kp.new {H : Hp} {p : Addr} {o : HO} (h : H p = none) : Kp H (upd H p o) := (Same.new h).kp
theorem Kp.mut {H : Hp} {p : Addr} {u o : HO} (h : H p = some u) (i : imm u = false) : Kp H (upd H p o) := fun b v e j => by
  rw [upd_ne (ne_of e h (fun z => by rw [z, i] at j; cases j))]
  exact e
/-- all but what stands at l is as it was -/
def But (l : Addr) (H H' : Hp) : Prop := ∀ b o, H b = some o → b ≠ l → H' b = some o
theorem But.refl (l : Addr) (H : Hp) : But l H H := fun _ _ e _ => e
theorem But.trans {l : Addr} {H H1 H2 : Hp} (a : But l H H1) (b : But l H1 H2) : But l H H2 := fun c o e n => b c o (a c o e n) n
theorem Same.but {l : Addr} {H H' : Hp} (s : Same H H') : But l H H' := fun b o e _ => s b o e
theorem But.kp {l : Addr} {H H' : Hp} {u : HO} (b : But l H H') (h : H l = some u) (i : imm u = false) : Kp H H' := fun c o e j => b c o e (ne_of e h (fun z => by rw [z, i] at j; cases j))
theorem But.upd {l : Addr} {H : Hp} {o : HO} : But l H (upd H l o) := fun b v e n => by rw [upd_ne n]; exact e
theorem But.free {l p : Addr} {H H' : Hp} (b : But l H H') (h : H' p = none) (n : p ≠ l) : H p = none := by
  cases e : H p with
  | none => rfl
  | some o => rw [b p o e n] at h; cases h
/-- a bag of draws -/
def BagAt (H : Hp) (l : Addr) : Prop := ∃ a b : Int, H l = some (.lst [.int a, .int b]) ∧ 0 ≤ a ∧ 0 ≤ b ∧ b < 2 ^ 40
theorem BagAt.kp {l : Addr} {H H' : Hp} (g : BagAt H l) (b : But l H H') : Kp H H' := by
  obtain ⟨x, y, h, _⟩ := g
  exact b.kp h rfl
theorem BagAt.ne {l p : Addr} {H : Hp} {o : HO} (g : BagAt H l) (h : H p = some o) (n : ∀ a b, o ≠ .lst [.int a, .int b]) : p ≠ l := by
  obtain ⟨x, y, e, _⟩ := g
  exact ne_of h e (n x y)
theorem BagAt.ne0 {l p : Addr} {H : Hp} (g : BagAt H l) (h : H p = none) : p ≠ l := by
  obtain ⟨x, y, e, _⟩ := g
  exact (ne_of_none e h).symm
/-- take(bag, many) -/
def spTake : Sp := fun vs H Q _ => ∃ (l : Addr) (many : Int), vs = [.ref l, .int many] ∧ BagAt H l ∧ 0 < many ∧ many.natAbs.log2 < 9000 ∧
  ∀ (d : Int) (H' : Hp), 0 ≤ d → d < many → But l H H' → BagAt H' l → Q (.int d) H'
/-- a draw of an int: any, within 2 ^ n -/
def spDraw (n : Nat) : Sp := fun vs H Q _ => ∃ (l : Addr), vs = [.ref l] ∧ BagAt H l ∧ ∀ (d : Int) (H' : Hp), d.natAbs < 2 ^ n → But l H H' → BagAt H' l → Q (.int d) H'
/-- the bag made of a script -/
def spBag (K : PySem.W.Frag) : Sp := fun vs H Q _ => ∃ (a : Addr) (ns : List Int) (at_ : Int), vs = [.ref a, .int at_] ∧ SqL K H a (ns.map V.int) ∧ ns.length ≤ 63 ∧ 0 ≤ at_ ∧ at_ < 64 ∧
  ∀ (l : Addr) (H' : Hp), H l = none → Same H H' → BagAt H' l → Q (.ref l) H'
end L2
namespace L2
open PySem PySem.Spec PyProof.Rows
theorem Same.but_ {l : Addr} {H0 H1 H2 : Hp} (s : Same H0 H1) (h : H0 l = none) (b : But l H1 H2) : Same H0 H2 := fun c o e => b c o (s c o e) (ne_of_none e h)
theorem SqT.of_ {K : PySem.W.Frag} {H : Hp} {a : Addr} {xs : List V} (h : H a = some (.tup xs)) : SqT K H a xs := Or.inl (Or.inl h)
/-- for i, x in enumerate(xs) over a list -/
theorem for_enum {K : PySem.W.Frag} {a : Addr} {xs : List V} {g : TG} {tb : TS} {D : Ends} {σ : St} {H : Hp} (Pv : Nat → St → Hp → Prop) (h0 : Pv 0 σ H) (hl : ∀ i σ H, i ≤ xs.length → Pv i σ H → SqL K H a xs)
    (hs : ∀ i x σ H T, xs[i]? = some x → Pv i σ H → H T = none → g (.ref T) σ (upd H T (.tup [.int (i : Nat), x])) fun σ2 H2 => tb { D with nx := Pv (i + 1), ct := Pv (i + 1), bk := D.nx } σ2 H2) (hd : ∀ σ H, Pv xs.length σ H → D.nx σ H) :
    ∃ W : Nat → Nat → St → Hp → Prop, (∃ m, W 0 m σ H) ∧ ∀ i m σ H, W i m σ H →
      ((Ite K a).stop i H ∧ D.nx σ H) ∨ ((Ite K a).go i H ∧ ∃ N : St → Hp → Prop, (∀ σ' H', N σ' H' → ∃ m', m' < m ∧ W (i + 1) m' σ' H') ∧ ∀ x H', (Ite K a).yld i H x H' → g x σ H' fun σ2 H2 => tb { D with nx := N, ct := N, bk := D.nx } σ2 H2) := by
  refine ⟨fun i m σ H => m = xs.length - i ∧ i ≤ xs.length ∧ Pv i σ H, ⟨xs.length, by simp, Nat.zero_le _, h0⟩, ?_⟩
  rintro i m σ H ⟨rfl, hi, p⟩
  have q := hl i σ H hi p
  by_cases hlt : i < xs.length
  · refine .inr ⟨⟨xs, xs[i], q, by simp [hlt]⟩, Pv (i + 1), fun σ' H' p' => ⟨xs.length - (i + 1), by omega, rfl, hlt, p'⟩, fun x H' y => ?_⟩
    obtain ⟨T, z, e1, e2, e3, e4⟩ := y
    subst e1 e3
    exact hs i z σ H T (e4 xs q) p e2
  · have e : i = xs.length := by omega
    subst e
    exact .inl ⟨⟨xs, q, Nat.le_refl _⟩, hd σ H p⟩
theorem g_pair {K : PySem.W.Frag} {i j : Nat} {T : Addr} {x y : V} {σ : St} {H : Hp} {Q : St → Hp → Prop} (h : H T = some (.tup [x, y])) (q : Q ((σ.set i (some x)).set j (some y)) H) :
    gTup K 2 (gCons (gName i) (gCons (gName j) gNil)) (.ref T) σ H Q := ⟨T, _, rfl, SqT.of_ h, rfl, _, _, rfl, _, _, rfl, rfl, q⟩
/-- a multiplication of two numbers that are small enough -/
theorem mulW {i j : Int} (a b : Nat) (ha : i.natAbs < 2 ^ a) (hb : j.natAbs < 2 ^ b) (h0 : 0 < a := by decide) (h1 : 0 < b := by decide) (h : a + b ≤ 1000000 := by decide) : CMulW i j := wide_mul ha hb h0 h1 h
theorem log2_lt {j : Int} {n : Nat} (h0 : 0 < n) (h : j.natAbs < 2 ^ n) (h9 : n ≤ 9000) : j.natAbs.log2 < 9000 := Nat.lt_of_lt_of_le (PySem.Flt.log2_lt_of h0 h) h9
theorem log2_lt' {j : Int} {n : Nat} (h0 : 0 < n) (h : j.natAbs < 2 ^ n) (h9 : n ≤ 1920) : j.natAbs.log2 < 1920 := Nat.lt_of_lt_of_le (PySem.Flt.log2_lt_of h0 h) h9
/-- 64 bits are enough here -/
theorem lt64 {i : Int} (h : -18446744073709551616 < i) (h' : i < 18446744073709551616) : i.natAbs < 2 ^ 64 := by
  have e : (2 : Nat) ^ 64 = 18446744073709551616 := by decide
  omega
theorem nat_pow_mono {a b n : Nat} (h : n < 2 ^ a) (hab : a ≤ b) : n < 2 ^ b := Nat.lt_of_lt_of_le h (Nat.pow_le_pow_right (by decide) hab)
theorem natAbs_add_lt {i j : Int} {a b c : Nat} (ha : i.natAbs < 2 ^ a) (hb : j.natAbs < 2 ^ b) (h1 : a < c := by decide) (h2 : b < c := by decide) : (i + j).natAbs < 2 ^ c := by
  have x := nat_pow_mono ha (show a ≤ c - 1 by omega)
  have y := nat_pow_mono hb (show b ≤ c - 1 by omega)
  have e : 2 ^ c = 2 ^ (c - 1) + 2 ^ (c - 1) := by rw [← Nat.two_mul, ← Nat.pow_succ', Nat.succ_eq_add_one, Nat.sub_add_cancel (by omega)]
  have z := Int.natAbs_add_le i j
  omega
theorem natAbs_sub_lt {i j : Int} {a b c : Nat} (ha : i.natAbs < 2 ^ a) (hb : j.natAbs < 2 ^ b) (h1 : a < c := by decide) (h2 : b < c := by decide) : (i - j).natAbs < 2 ^ c := by
  rw [Int.sub_eq_add_neg]
  exact natAbs_add_lt ha (by rw [Int.natAbs_neg]; exact hb) h1 h2
theorem natAbs_mul_lt {i j : Int} {a b c : Nat} (ha : i.natAbs < 2 ^ a) (hb : j.natAbs < 2 ^ b) (h : a + b ≤ c := by decide) : (i * j).natAbs < 2 ^ c := nat_pow_mono (wide_lt ha hb) h
end L2
namespace L2
open PySem PySem.Spec PyProof.Rows
section
variable {X : Cx}
/-- an expression, a test, a statement with a word behind it: what follows is shown once -/
def tCutE (t : TE) : TE := fun σ H Q => ∃ M : VK, t σ H M ∧ ∀ v H', M v H' → Q v H'
theorem pe_cut {e : Expr} {t : TE} (h : PE X e t) : PE X e (tCutE t) := ⟨fun pins s σ H Q I hq => by
  obtain ⟨M, hm, k⟩ := hq
  exact wpAny_mono (h.run pins s σ H M I hm) (fun u s' q => by
    obtain ⟨v, H', I', r, m⟩ := q
    exact ⟨v, H', I', r, k v H' m⟩) fun _ _ z => z⟩
def tCutT (t : TT) : TT := fun σ H Q => ∃ M : Bool → Hp → Prop, t σ H M ∧ ∀ v H', M v H' → Q v H'
theorem pt_cut {e : Expr} {t : TT} (h : PT X e t) : PT X e (tCutT t) := ⟨fun pins s σ H Q I hq => by
  obtain ⟨M, hm, k⟩ := hq
  exact wpAny_mono (h.run pins s σ H M I hm) (fun u s' q => by
    obtain ⟨H', I', m⟩ := q
    exact ⟨H', I', k _ H' m⟩) fun _ _ z => z⟩
def tCutS (t u : TS) : TS := fun D σ H => ∃ Mid : L2.St → Hp → Prop, t { D with nx := Mid } σ H ∧ ∀ σ' H', Mid σ' H' → u D σ' H'
theorem pss_cut1 {st : Stmt} {rest : List Stmt} {t u : TS} (h1 : PS X st t) (h2 : PSs X rest u) : PSs X (st :: rest) (tCutS t u) := by
  refine ⟨fun pins s σ H D I h => ?_⟩
  obtain ⟨Mid, hm, hu⟩ := h
  refine wpAny_execs_cons (thn (h1.run pins s σ H { D with nx := Mid } I hm) fun f s1 q => ?_)
  cases f with
  | next =>
    obtain ⟨σ', H', I', q⟩ := q
    exact h2.run pins s1 σ' H' D I' (hu σ' H' q)
  | ret v => exact q
  | brk => exact q
  | cont => exact q
end
end L2
namespace L2
theorem atI_pos {α : Type} {xs : List α} {i : Int} {v : α} (h0 : 0 ≤ i) (h : xs[i.toNat]? = some v) : atI xs i = some v := by
  have e : i = ((i.toNat : Nat) : Int) := by omega
  have z := atI_nat h
  rw [← e] at z
  exact z
end L2

namespace PySem.W
open PySem PySem.Calls PyProof.Rows
section
variable {prog : Program} {w : World} {A : Around} {E : Value → Shared → Prop} {s : Shared} {K : Frag} {x y C D f g : Addr} {ox oy : Obj} {od oe : Option Obj}
/-- what two classes say of a number slot: D is no C; D fills it by an own method, or not at all -/
structure Num2 (K : Frag) (C D : Addr) (nm : String) : Prop where
  ne : C ≠ D
  sub : subIn K (.ref D) (.ref C) = some false
  rc : findIn K (.ref C) (dunderR nm) = some none ∨ ∃ g : Addr, findIn K (.ref C) (dunderR nm) = some (some (.ref g))
  dm : mro2 K D = true
  sl : (∃ f1 : Addr, findIn K (.ref D) (PySem.dunder nm) = some (some (.ref f1)) ∧ (findIn K (.ref D) (dunderR nm) = some none ∨ ∃ g : Addr, findIn K (.ref D) (dunderR nm) = some (some (.ref g)))) ∨
    (findIn K (.ref D) (PySem.dunder nm) = some none ∧ findIn K (.ref D) (dunderR nm) = some none ∧ findIn K (.type "object") (PySem.dunder nm) = some none ∧ findIn K (.type "object") (dunderR nm) = some none)
def pyOrNone : Option (Option Value) → Bool
  | some none => true
  | some (some (.ref _)) => true
  | _ => false
theorem pyOrNone_ok {o : Option (Option Value)} (h : pyOrNone o = true) : o = some none ∨ ∃ g : Addr, o = some (some (.ref g)) := by
  cases o with
  | none => cases h
  | some o =>
    cases o with
    | none => exact .inl rfl
    | some v =>
      cases v with
      | ref g => exact .inr ⟨g, rfl⟩
      | _ => cases h
def isPy : Option (Option Value) → Bool
  | some (some (.ref _)) => true
  | _ => false
theorem isPy_ok {o : Option (Option Value)} (h : isPy o = true) : ∃ g : Addr, o = some (some (.ref g)) := by
  cases o with
  | none => cases h
  | some o =>
    cases o with
    | none => cases h
    | some v =>
      cases v with
      | ref g => exact ⟨g, rfl⟩
      | _ => cases h
def num2B (K : Frag) (C D : Addr) (nm : String) : Bool := decide (C ≠ D) && (decide (subIn K (.ref D) (.ref C) = some false) && (pyOrNone (findIn K (.ref C) (dunderR nm)) && (mro2 K D &&
  ((isPy (findIn K (.ref D) (PySem.dunder nm)) && pyOrNone (findIn K (.ref D) (dunderR nm))) || (decide (findIn K (.ref D) (PySem.dunder nm) = some none) && (decide (findIn K (.ref D) (dunderR nm) = some none) &&
    (decide (findIn K (.type "object") (PySem.dunder nm) = some none) && decide (findIn K (.type "object") (dunderR nm) = some none))))))))
theorem num2_ok {nm : String} (h : num2B K C D nm = true) : Num2 K C D nm := by
  obtain ⟨a1, h⟩ := Bool.and_eq_true_iff.mp h
  obtain ⟨a2, h⟩ := Bool.and_eq_true_iff.mp h
  obtain ⟨a3, h⟩ := Bool.and_eq_true_iff.mp h
  obtain ⟨a4, h⟩ := Bool.and_eq_true_iff.mp h
  refine ⟨of_decide_eq_true a1, of_decide_eq_true a2, pyOrNone_ok a3, a4, ?_⟩
  rcases Bool.or_eq_true_iff.mp h with h | h
  · obtain ⟨b1, b2⟩ := Bool.and_eq_true_iff.mp h
    obtain ⟨f1, e1⟩ := isPy_ok b1
    exact .inl ⟨f1, e1, pyOrNone_ok b2⟩
  · obtain ⟨b1, h⟩ := Bool.and_eq_true_iff.mp h
    obtain ⟨b2, h⟩ := Bool.and_eq_true_iff.mp h
    obtain ⟨b3, b4⟩ := Bool.and_eq_true_iff.mp h
    exact .inr ⟨of_decide_eq_true b1, of_decide_eq_true b2, of_decide_eq_true b3, of_decide_eq_true b4⟩
theorem rx_fillsNone {M : Model} {h : Heap} {nm : String} (X : K.In h) (hm : mro2 K D = true) (h1 : findIn K (.ref D) (PySem.dunder nm) = some none) (h2 : findIn K (.ref D) (dunderR nm) = some none)
    (h3 : findIn K (.type "object") (PySem.dunder nm) = some none) (h4 : findIn K (.type "object") (dunderR nm) = some none) : Looks M h (fillsNumberSlot (.ref D) nm) false := by
  obtain ⟨cd, hcd, hmr⟩ := mro2_of hm
  intro A Q E s k q
  have Lm : Looks M h (mroOf (.ref D)) cd.mro := (looks_clsIn X hcd).andThen (f := fun cd => pure cd.mro) .now
  have Lm' := Lm.keeps k
  obtain ⟨hh, g, d, tt, os⟩ := s
  have X' : K.In hh := X.keeps k
  have L1 : Looks M hh (typeLookup (.ref D) (PySem.dunder nm)) none := looks_findIn X' h1
  have L2 : Looks M hh (typeLookup (.ref D) (dunderR nm)) none := looks_findIn X' h2
  have L3 : Looks M hh (typeLookup (.type "object") (PySem.dunder nm)) none := looks_findIn X' h3
  have L4 : Looks M hh (typeLookup (.type "object") (dunderR nm)) none := looks_findIn X' h4
  unfold fillsNumberSlot
  refine wpAny_bind (Lm'.at ?_)
  rw [hmr, List.anyM_cons]
  refine wpAny_bind ?_
  dsimp only
  rw [List.anyM_cons]
  refine wpAny_bind (wpAny_bind (L1.at (wpAny_pure ?_)))
  rw [if_neg Bool.false_ne_true, List.anyM_cons]
  refine wpAny_bind (wpAny_bind (L2.at (wpAny_pure ?_)))
  rw [if_neg Bool.false_ne_true]
  refine wpAny_pure ?_
  rw [if_neg Bool.false_ne_true, List.anyM_cons]
  refine wpAny_bind ?_
  dsimp only
  refine wpAny_bind (L3.at (wpAny_bind (L4.at (wpAny_pure ?_))))
  exact wpAny_pure q
/-- a OP b by a's own method, b of another class; what is behind the first try is told by k -/
theorem rx_bin1 {nm : String} {R : Option Value → Shared → Prop} (X : K.In s.heap) (I : InstAt s.heap x ox C od) (J : InstAt s.heap y oy D oe) (hc : mro2 K C = true) (N : Num2 K C D nm)
    (hs : findIn K (.ref C) (PySem.dunder nm) = some (some (.ref f)))
    (h : wpAny (model prog w) A (tryMethod (.ref x) (PySem.dunder nm) (.ref y)) (fun r s' => (∃ v, r = some v ∧ R (some v) s') ∨ (r = none ∧ ∃ (g : Addr), findIn K (.ref D) (dunderR nm) = some (some (.ref g)) ∧ (∃ f1 : Addr, findIn K (.ref D) (PySem.dunder nm) = some (some (.ref f1))) ∧ Looks (model prog w) s'.heap (typeOf (.ref x)) (.ref C) ∧ Looks (model prog w) s'.heap (typeOf (.ref y)) (.ref D) ∧
      wpAny (model prog w) A (tryMethod (.ref y) (dunderR nm) (.ref x)) (fun r s' => ∃ v, r = some v ∧ R (some v) s') E s')) E s) :
    wpAny (model prog w) A (binaryOp1 nm (.ref x) (.ref y)) R E s := by
  obtain ⟨cd, hcd, hmr⟩ := mro2_of hc
  obtain ⟨ced, hced, hmrD⟩ := mro2_of N.dm
  have L3 : Looks (model prog w) s.heap (fillsNumberSlot (.ref C) nm) true := fills_K X hcd hmr hs
  have L5 : Looks (model prog w) s.heap (isSubtype (.ref D) (.ref C)) false := looks_subIn X N.sub
  have L6 : Looks (model prog w) s.heap (numberSlotInPython (.ref C) nm) true := by
    rcases N.rc with rc | ⟨g, rc⟩
    · exact ksp_inPy X hs rc (.inl rfl)
    · exact ksp_inPy X hs rc (.inr ⟨g, rfl⟩)
  have hne : (Value.ref C == Value.ref D) = false := Bool.eq_false_iff.mpr fun q => by
    have z := beq_iff_eq.mp q
    injection z with z
    exact N.ne z
  unfold binaryOp1
  refine wpAny_bind (I.type.here (wpAny_bind (J.type.here (wpAny_bind (L3.here ?_)))))
  simp only [hne, Bool.false_eq_true, if_false]
  rcases N.sl with ⟨f1, d1, d2⟩ | ⟨d1, d2, d3, d4⟩
  · have L4 : Looks (model prog w) s.heap (fillsNumberSlot (.ref D) nm) true := fills_K X hced hmrD d1
    have L7 : Looks (model prog w) s.heap (numberSlotInPython (.ref D) nm) true := by
      rcases d2 with rc | ⟨g, rc⟩
      · exact ksp_inPy X d1 rc (.inl rfl)
      · exact ksp_inPy X d1 rc (.inr ⟨g, rfl⟩)
    refine wpAny_bind (L4.here ?_)
    simp only [Bool.and_self, if_true]
    refine wpAny_bind (L5.here ?_)
    simp only [Bool.false_eq_true, if_false, Bool.not_false, Bool.and_self, if_true]
    refine wpAny_bind (L6.here ?_)
    simp only [if_true]
    refine wpAny_bind (L7.here ?_)
    simp only [Bool.not_true, Bool.false_eq_true, if_false]
    refine wpAny_bind (wpAny_mono h (fun r s' hr => ?_) fun _ _ e => e)
    rcases hr with ⟨v, rfl, hq⟩ | ⟨rfl, g, _, _, T1, T2, hq⟩
    · exact wpAny_pure hq
    · refine wpAny_bind (T1.here (wpAny_bind (T2.here ?_)))
      simp only [hne, Bool.false_eq_true, if_false]
      refine wpAny_bind (wpAny_mono hq (fun r s2 hr => ?_) fun _ _ e => e)
      obtain ⟨v, rfl, hq⟩ := hr
      exact wpAny_bind (wpAny_rule (wpAny_pure hq))
  · have L4 : Looks (model prog w) s.heap (fillsNumberSlot (.ref D) nm) false := rx_fillsNone X N.dm d1 d2 d3 d4
    refine wpAny_bind (L4.here ?_)
    simp only [Bool.and_false, Bool.false_eq_true, if_false, Bool.false_and]
    refine wpAny_bind (wpAny_pure ?_)
    simp only [Bool.false_eq_true, if_false, if_true]
    refine wpAny_bind (wpAny_mono h (fun r s' hr => ?_) fun _ _ e => e)
    rcases hr with ⟨v, rfl, hq⟩ | ⟨rfl, g, z, _⟩
    · exact wpAny_pure hq
    · rw [d2] at z; cases z
theorem rx_bin2 {op : Operator} {Q : Value → Shared → Prop} (X : K.In s.heap) (I : InstAt s.heap x ox C od) (J : InstAt s.heap y oy D oe) (hc : mro2 K C = true) (N : Num2 K C D op.info.2)
    (hs : findIn K (.ref C) (PySem.dunder op.info.2) = some (some (.ref f))) (hf : isFn K (.ref f) = true)
    (h : wpAny (model prog w) A (call (.ref f) [.ref x, .ref y]) (CmpBack Q) E s) : wpAny (model prog w) A (binaryOp op (.ref x) (.ref y)) Q E s := by
  rcases hi : op.info with ⟨sym, nm⟩
  rw [hi] at hs N
  simp only [binaryOp, hi]
  refine wpAny_holding (wpAny_bind (rx_bin1 X I J hc N hs (wpAny_mono (ksp_try (Q := Q) X I hs hf h) (fun r s' hr => ?_) fun _ _ e => e)))
  obtain ⟨v, e, hq⟩ := hr
  exact .inl ⟨v, e, wpAny_pure hq⟩
/-- a declines, then b's own reflected method -/
theorem rx_bin2R' {op : Operator} {Q : Value → Shared → Prop} (X : K.In s.heap) (I : InstAt s.heap x ox C od) (J : InstAt s.heap y oy D oe) (hc : mro2 K C = true) (N : Num2 K C D op.info.2)
    (hs : findIn K (.ref C) (PySem.dunder op.info.2) = some (some (.ref f))) (hf : isFn K (.ref f) = true)
    (hr : findIn K (.ref D) (dunderR op.info.2) = some (some (.ref g))) (hg : isFn K (.ref g) = true) (hd : ∃ f1 : Addr, findIn K (.ref D) (PySem.dunder op.info.2) = some (some (.ref f1)))
    (h : wpAny (model prog w) A (call (.ref f) [.ref x, .ref y]) (fun v s' => v = .notImplemented ∧ K.In s'.heap ∧ (∃ ox od, InstAt s'.heap x ox C od) ∧ (∃ oy oe, InstAt s'.heap y oy D oe) ∧ wpAny (model prog w) A (call (.ref g) [.ref y, .ref x]) (CmpBack Q) E s') E s) :
    wpAny (model prog w) A (binaryOp op (.ref x) (.ref y)) Q E s := by
  rcases hi : op.info with ⟨sym, nm⟩
  rw [hi] at hs N hr hd
  simp only [binaryOp, hi]
  refine wpAny_holding (wpAny_bind (rx_bin1 X I J hc N hs ?_))
  unfold tryMethod
  refine wpAny_bind (special_fn X I hs (beq_iff_eq.mp hf) (wpAny_mono h (fun v s' hv => ?_) fun _ _ e => e))
  obtain ⟨rfl, X', ⟨_, _, I'⟩, ⟨_, _, J'⟩, hq⟩ := hv
  refine wpAny_pure (.inr ⟨rfl, g, hr, hd, I'.type, J'.type, ?_⟩)
  refine wpAny_mono (ksp_try (Q := Q) X' J' hr hg hq) (fun r s2 hr2 => ?_) fun _ _ e => e
  obtain ⟨v, e, hq⟩ := hr2
  exact ⟨v, e, wpAny_pure hq⟩
theorem rx_inpl2 {op : Operator} {Q : Value → Shared → Prop} (X : K.In s.heap) (I : InstAt s.heap x ox C od) (J : InstAt s.heap y oy D oe) (hc : mro2 K C = true) (N : Num2 K C D op.info.2)
    (h1 : findIn K (.ref C) (dunderI op.info.2) = some none) (h2 : findIn K (.type "object") (dunderI op.info.2) = some none)
    (hs : findIn K (.ref C) (PySem.dunder op.info.2) = some (some (.ref f))) (hf : isFn K (.ref f) = true)
    (h : wpAny (model prog w) A (call (.ref f) [.ref x, .ref y]) (CmpBack Q) E s) : wpAny (model prog w) A (inplaceOp op (.ref x) (.ref y)) Q E s := by
  have L0 := rx_inplNone (M := model prog w) (nm := op.info.2) (add := (op == .Add)) X hc h1 h2
  have one := rx_bin1 (R := fun r s' => ∃ v, r = some v ∧ Q v s') X I J hc N hs (wpAny_mono (ksp_try (Q := Q) X I hs hf h) (fun r s' hr => by
    obtain ⟨v, e, hq⟩ := hr
    exact .inl ⟨v, e, v, rfl, hq⟩) fun _ _ e => e)
  generalize hnm : op.info.2 = nm at *
  unfold inplaceOp
  rw [hnm]
  refine wpAny_holding (wpAny_bind (I.type.here (wpAny_bind (L0.here ?_))))
  rw [if_neg Bool.false_ne_true]
  refine wpAny_bind (wpAny_mono one (fun r s' hr => ?_) fun _ _ e => e)
  obtain ⟨v, rfl, hq⟩ := hr
  exact wpAny_pure hq
end
end PySem.W

namespace L2
open PySem PySem.Spec PyProof.Rows
/-! ### a def that hands back NotImplemented -/
structure FnNI (P : Program) (w : World) (K : PySem.W.Frag) (mg : Str → Option Value) (base : Heap) (k : Nat) (f : Addr) (fd : FuncData) (ps : List Str) (pre : List V → Hp → Prop) : Prop where
  len : ∀ vs H, pre vs H → vs.length = ps.length
  run : ∀ (A : Around) (outer : List Env) (s : Shared) (H : Hp) (args : Args) (us : List Value) (vs : List V), Room k A → Env0 P w K mg base A outer s H → BindsTo s fd args (ps.zip us) → Vals vs us → pre vs H →
    codeAny (model P w) A (.call (.ref f) args) (fun r s' => r = .ok (.ret .notImplemented) ∧ s'.os = s.os ∧ AllBare s'.gens ∧ Un (frs outer) [] H H s.heap s'.heap ∧ HOk P w H s'.heap) s
section
variable {P : Program} {w : World} {K : PySem.W.Frag} {mg : Str → Option Value} {base : Heap} {x qual : Str} {params : Arguments} {body : List Stmt} {scope : Scope} {dvs : List V} {kws : List (Str × V)} {f : Addr} {fd : FuncData}
/-- if test: return NotImplemented, the test being true -/
theorem FunD.ni {N ps : List Str} {k : Nat} {pre : List V → Hp → Prop} {test : Expr} {p1 p2 p3 : Pos} {rest : List Stmt} (F : FunD K x qual params (.If test [.Return (some (.Name "NotImplemented" p1)) p2] [] p3 :: rest) scope dvs kws f fd) (S : FnScope N ps scope)
    (hn : mg "NotImplemented" = none) (len : ∀ vs H, pre vs H → vs.length = ps.length)
    (hbody : ∀ (cdv : Value) (A : Around) (outer : List Env) (s : Shared) (H : Hp) (vs : List V), Room k (A.deeper (envOfC qual scope s.heap.objs.size f cdv)) → pre vs H →
      Gl (cxOf CX0 P w K mg base N qual scope f cdv A outer s H E0).nox "NotImplemented" ∧ ∃ t, PT (cxOf CX0 P w K mg base N qual scope f cdv A outer s H E0).nox test t ∧ t (start N vs) H fun b H' => b = true ∧ H = H') : FnNI P w K mg base (k + 1) f fd ps pre := by
  obtain ⟨oc, od, dV, kV, doc, pm, an, cdv, ct, osl, rfl, lk, hcd, _, _⟩ := F.ex
  refine ⟨len, fun A outer s H args us vs hr e0 hb r hsp => ?_⟩
  have hl := len _ _ hsp
  have KX : K.In s.heap := e0.mod.kin.keeps fun b o e => (e0.bs b o e).1
  have lim : s.heap.NoLimit := e0.mod.nolimit.keeps fun b o e => (e0.bs b o e).1
  have hkind : ∀ y ∈ ps.zip us, scope.names.lookup y.1 = some .local ∨ (scope.names.lookup y.1 = some .cell ∧ ((cellsFrom (s.heap.objs.size + 1) scope.names []).lookup y.1).isSome = true) := fun ⟨n, v⟩ hy => by
    rcases S.par n (List.of_mem_zip hy).1 with q | q
    · exact .inl q
    · exact .inr ⟨q, PySem.W.cellsFrom_some _ _ _ (.inl q)⟩
  refine codeAny_call_function hr.depth (KX _ _ lk) rfl S.co S.gen rfl (PySem.W.codeRec_of KX hcd) (hb _ _ _ _ ?_)
  refine wpAny_newFunctionEnv_cells S.kind hkind fun env he s1 xx => ?_
  subst he
  refine ⟨lim.keeps xx.toInCall.keep, codeAny_func ?_⟩
  obtain ⟨hgl, t, ht, hq⟩ := hbody cdv A outer s H vs (hr.deeper _) hsp
  have I0 : Inv (cxOf CX0 P w K mg base N qual scope f cdv A outer s H E0) [] (start N vs) H s1 := inv_start S hr.hd e0 hl r xx
  have I : Inv (cxOf CX0 P w K mg base N qual scope f cdv A outer s H E0).nox [] (start N vs) H s1 := I0.wish _
  refine wpAny_execs_cons (wpAny_mono (wpAny_If (Q := fun fl s' => fl = .ret .notImplemented ∧ ∃ σ', Inv (cxOf CX0 P w K mg base N qual scope f cdv A outer s H E0).nox [] σ' H s') (E := fun _ _ => False) (thn (ht.run [] s1 (start N vs) H _ I hq) fun d s2 hh => ?_)) (fun fl s2 hh => ?_) fun _ _ z => z.elim)
  · obtain ⟨H1, I1, hd, eH⟩ := hh
    subst hd
    subst eH
    refine wpAny_execs_cons (wpAny_Return_some (ld_blt (u := .notImplemented) I1 ?_ hn (by decide +kernel) ?_))
    · exact hgl
    · exact ⟨rfl, _, I1⟩
  · obtain ⟨rfl, σ', J⟩ := hh
    exact ⟨rfl, J.os, J.bare, J.base, J.hok⟩
end
section
variable {X : Cx} {CX : CXT} {k k' : Nat} {f g C D : Addr} {fd fd' : FuncData} {ps ps' : List Str} {sp : Sp} {E : XK} {pre : List V → Hp → Prop}
/-- it runs: the state is as it was -/
theorem run_ni {A : Around} {pins : List (Addr × Obj)} {σ : St} {H : Hp} {s : Shared} {us : List Value} {vs : List V} (F : FnNI X.prog X.w X.K X.mg X.base k f fd ps pre) (hr : Room k A) (he : Env0 X.prog X.w X.K X.mg X.base A X.stack s H) (hb : Binds X.K fd ps [])
    (I : Inv X pins σ H s) (r : Vals vs us) (h : pre vs H) {E' : Value → Shared → Prop} : wpAny (model X.prog X.w) A (call (.ref f) us) (fun v s' => v = .notImplemented ∧ Inv X pins σ H s') E' s := by
  have hl : us.length = ps.length := by rw [← r.length]; exact F.len _ _ h
  have b := hb s us I.kIn (by rw [List.append_nil]; exact hl)
  rw [List.append_nil] at b
  refine wpAny_call (codeAny_mono (F.run A X.stack s H ⟨us, []⟩ us vs hr he b r h) fun r s' hq => ?_)
  obtain ⟨rfl, os, bare, un, hok⟩ := hq
  obtain ⟨hh, g, d, t, os'⟩ := s'
  obtain rfl : os' = s.os := os
  exact ⟨rfl, I.call (h' := hh) (g' := g) (d' := d) (t' := t) (ch := []) un hok bare (fun b z => absurd z (by simp))⟩
def rOwn2 (C D : Addr) (sp : Sp) (E : XK) : R2 := fun x y H Q => ∃ a dx fs b dy gs, x = .ref a ∧ H a = some (.ins C dx fs) ∧ y = .ref b ∧ H b = some (.ins D dy gs) ∧ sp [x, y] H Q E
theorem op_own2 {op : Operator} (hm : Meth X.K C (PySem.dunder op.info.2) f) (hs : PySem.W.mro2 X.K C = true) (N : PySem.W.Num2 X.K C D op.info.2) (F : FnOk X.prog X.w X.K X.mg X.base CX k f fd ps sp) (hr : Room k X.A) (hb : Binds X.K fd ps []) (hx : Passes CX X E) :
    OpR X (binaryOp op) (rOwn2 C D sp E) := by
  intro pins s σ H x y u v Q I rx ry h
  obtain ⟨a, dx, fs, b, dy, gs, ex, ha, ey, hb', h⟩ := h
  subst ex
  subst ey
  cases (show u = Value.ref a from rx)
  cases (show v = Value.ref b from ry)
  obtain ⟨oa, Ia⟩ := inst_of I ha
  obtain ⟨ob, Ib⟩ := inst_of I hb'
  exact PySem.W.rx_bin2 I.kIn Ia Ib hs N hm.1 hm.2 (run_back (vs := [V.ref a, V.ref b]) F hr hb hx I (.cons rfl (.cons rfl .nil)) h)
theorem iop_own2 {op : Operator} (hm : Meth X.K C (PySem.dunder op.info.2) f) (hs : PySem.W.mro2 X.K C = true) (N : PySem.W.Num2 X.K C D op.info.2) (h1 : PySem.W.findIn X.K (.ref C) (dunderI op.info.2) = some none) (h2 : PySem.W.findIn X.K (.type "object") (dunderI op.info.2) = some none)
    (F : FnOk X.prog X.w X.K X.mg X.base CX k f fd ps sp) (hr : Room k X.A) (hb : Binds X.K fd ps []) (hx : Passes CX X E) :
    PIp X op (rOwn2 C D sp E) := by
  intro pins s σ H x y u v Q I rx ry h
  obtain ⟨a, dx, fs, b, dy, gs, ex, ha, ey, hb', h⟩ := h
  subst ex
  subst ey
  cases (show u = Value.ref a from rx)
  cases (show v = Value.ref b from ry)
  obtain ⟨oa, Ia⟩ := inst_of I ha
  obtain ⟨ob, Ib⟩ := inst_of I hb'
  exact PySem.W.rx_inpl2 I.kIn Ia Ib hs N h1 h2 hm.1 hm.2 (run_back (vs := [V.ref a, V.ref b]) F hr hb hx I (.cons rfl (.cons rfl .nil)) h)
/-- a declines (F, where pre holds), then b's own reflected method -/
def rOwn2R (C D : Addr) (pre : List V → Hp → Prop) (sp : Sp) (E : XK) : R2 := fun x y H Q => ∃ a dx fs b dy gs, x = .ref a ∧ H a = some (.ins C dx fs) ∧ y = .ref b ∧ H b = some (.ins D dy gs) ∧ pre [x, y] H ∧ sp [y, x] H Q E
theorem op_own2R {op : Operator} {f1 : Addr} (hm : Meth X.K C (PySem.dunder op.info.2) f) (hs : PySem.W.mro2 X.K C = true) (N : PySem.W.Num2 X.K C D op.info.2) (hmR : Meth X.K D (dunderR op.info.2) g) (hmD : Meth X.K D (PySem.dunder op.info.2) f1)
    (G : FnNI X.prog X.w X.K X.mg X.base k' f fd' ps' pre) (hr' : Room k' X.A) (hb' : Binds X.K fd' ps' [])
    (F : FnOk X.prog X.w X.K X.mg X.base CX k g fd ps sp) (hr : Room k X.A) (hb : Binds X.K fd ps []) (hx : Passes CX X E) :
    OpR X (binaryOp op) (rOwn2R C D pre sp E) := by
  intro pins s σ H x y u v Q I rx ry h
  obtain ⟨a, dx, fs, b, dy, gs, ex, ha, ey, hbb, hp, h⟩ := h
  subst ex
  subst ey
  cases (show u = Value.ref a from rx)
  cases (show v = Value.ref b from ry)
  obtain ⟨oa, Ia⟩ := inst_of I ha
  obtain ⟨ob, Ib⟩ := inst_of I hbb
  have keep := fun (s' : Shared) (I' : Inv X pins σ H s') => inst_of I' ha
  refine PySem.W.rx_bin2R' I.kIn Ia Ib hs N hm.1 hm.2 hmR.1 hmR.2 ⟨f1, hmD.1⟩ (wpAny_mono (run_ni (vs := [V.ref a, V.ref b]) G hr' I.env0 hb' I (.cons rfl (.cons rfl .nil)) hp) (fun v s' q => ?_) fun _ _ z => z)
  obtain ⟨rfl, I'⟩ := q
  obtain ⟨oa', Ia'⟩ := inst_of I' ha
  obtain ⟨ob', Ib'⟩ := inst_of I' hbb
  exact ⟨rfl, I'.kIn, ⟨_, _, Ia'⟩, ⟨_, _, Ib'⟩, run_back (vs := [V.ref b, V.ref a]) F hr hb hx I' (.cons rfl (.cons rfl .nil)) h⟩
end
end L2

namespace T06
open PySem PySem.Spec PyProof.Rows L2
/-! ### the text by places -/
def top (i : Nat) : Stmt := PySem.Challenge.pw_rangeends_k06_moments_and_spans.main.body.getD i (.Pass ⟨0, 0, 0, 0⟩)
abbrev s_is_integer : Stmt := top 5
abbrev s_Span_init : Stmt := inClass (top 14) 0
abbrev s_Span_add : Stmt := inClass (top 14) 9
abbrev s_Moment_init : Stmt := inClass (top 15) 0
abbrev s_Moment_add : Stmt := inClass (top 15) 6
abbrev s_Moment_radd : Stmt := inClass (top 15) 7
abbrev s_Moment_sub : Stmt := inClass (top 15) 8
abbrev s_l_bag : Stmt := top 17
abbrev s_l_take : Stmt := top 18
abbrev s_l_number : Stmt := top 19
abbrev s_l_at : Stmt := top 20
abbrev s_l_is : Stmt := top 21
abbrev s_law : Stmt := top 22
def d_is_integer : He.DefD := ⟨("is_integer", none), "is_integer", "is_integer", defArgs s_is_integer, defBody s_is_integer, defScope s_is_integer, [], []⟩
def d_Span_init : He.DefD := ⟨("Span", some "__init__"), "__init__", "Span.__init__", defArgs s_Span_init, defBody s_Span_init, defScope s_Span_init, [], []⟩
def d_Span_add : He.DefD := ⟨("Span", some "__add__"), "__add__", "Span.__add__", defArgs s_Span_add, defBody s_Span_add, defScope s_Span_add, [], []⟩
def d_Moment_init : He.DefD := ⟨("Moment", some "__init__"), "__init__", "Moment.__init__", defArgs s_Moment_init, defBody s_Moment_init, defScope s_Moment_init, [], []⟩
def d_Moment_add : He.DefD := ⟨("Moment", some "__add__"), "__add__", "Moment.__add__", defArgs s_Moment_add, defBody s_Moment_add, defScope s_Moment_add, [], []⟩
def d_Moment_radd : He.DefD := ⟨("Moment", some "__radd__"), "__radd__", "Moment.__radd__", defArgs s_Moment_radd, defBody s_Moment_radd, defScope s_Moment_radd, [], []⟩
def d_Moment_sub : He.DefD := ⟨("Moment", some "__sub__"), "__sub__", "Moment.__sub__", defArgs s_Moment_sub, defBody s_Moment_sub, defScope s_Moment_sub, [], []⟩
def d_l_bag : He.DefD := ⟨("_law_bag", none), "_law_bag", "_law_bag", defArgs s_l_bag, defBody s_l_bag, defScope s_l_bag, [], []⟩
def d_l_take : He.DefD := ⟨("_law_take", none), "_law_take", "_law_take", defArgs s_l_take, defBody s_l_take, defScope s_l_take, [], []⟩
def d_l_number : He.DefD := ⟨("_law_number", none), "_law_number", "_law_number", defArgs s_l_number, defBody s_l_number, defScope s_l_number, [], []⟩
def d_l_at : He.DefD := ⟨("_law_at", none), "_law_at", "_law_at", defArgs s_l_at, defBody s_l_at, defScope s_l_at, [], []⟩
def d_l_is : He.DefD := ⟨("_law_is", none), "_law_is", "_law_is", defArgs s_l_is, defBody s_l_is, defScope s_l_is, [], []⟩
def d_law : He.DefD := ⟨("law", none), "law", "law", defArgs s_law, defBody s_law, defScope s_law, [], []⟩
def fn : List He.DefD := [d_is_integer, d_Span_init, d_Span_add, d_Moment_init, d_Moment_add, d_Moment_radd, d_Moment_sub, d_l_bag, d_l_take, d_l_number, d_l_at, d_l_is, d_law]
def fa : List He.Fa := [.glo "is_integer", .meth "Span" "__init__", .meth "Span" "__add__", .meth "Moment" "__init__", .meth "Moment" "__add__", .meth "Moment" "__radd__", .meth "Moment" "__sub__", .glo "_law_bag", .glo "_law_take", .glo "_law_number", .glo "_law_at", .glo "_law_is", .glo "law", .glo "BadNumber", .glo "BadGrain", .glo "Grain", .cls "Grain", .glo "Span", .cls "Span", .mkr "Span", .noat "Span" "amount", .glo "Moment", .cls "Moment", .mkr "Moment", .noat "Moment" "at", .free "NotImplemented", .free "abs", .free "bool", .free "enumerate", .free "int", .free "isinstance", .free "len", .free "max", .free "min", .free "range", .free "repr", .int "MOST_LENGTHS" 12, .int "GREATEST_LENGTH" 1000000000000000]
def exs : List (PySem.W.Frag → Bool) := [fun K => PySem.W.mro2 K (He.ga K "Grain"),
  fun K => ownTyB K (He.ga K "Grain"),
  fun K => decide (PySem.W.subIn K (.ref (He.ga K "Grain")) (.type "int") = some false),
  fun K => PySem.W.notFirst K (He.ga K "Grain") (.ref (He.ga K "Grain")),
  fun K => PySem.W.mro2 K (He.ga K "Span"),
  fun K => ownTyB K (He.ga K "Span"),
  fun K => decide (PySem.W.subIn K (.ref (He.ga K "Span")) (.type "int") = some false),
  fun K => PySem.W.notFirst K (He.ga K "Span") (.ref (He.ga K "Span")),
  fun K => PySem.W.mro2 K (He.ga K "Moment"),
  fun K => ownTyB K (He.ga K "Moment"),
  fun K => decide (PySem.W.subIn K (.ref (He.ga K "Moment")) (.type "int") = some false),
  fun K => PySem.W.notFirst K (He.ga K "Moment") (.ref (He.ga K "Moment")),
  fun K => He.eqO (PySem.W.findIn K (.ref (He.ga K "Moment")) "__iadd__") (some none),
  fun K => He.eqO (PySem.W.findIn K (.ref (He.ga K "Moment")) "__isub__") (some none),
  fun K => PySem.W.num2B K (He.ga K "Moment") (He.ga K "Span") "add",
  fun K => PySem.W.num2B K (He.ga K "Span") (He.ga K "Moment") "add",
  fun K => PySem.W.num2B K (He.ga K "Moment") (He.ga K "Span") "sub",
  fun K => He.eqO (PySem.W.findIn K (.type "object") "__iadd__") (some none),
  fun K => He.eqO (PySem.W.findIn K (.type "object") "__isub__") (some none),
  fun K => decide (PySem.W.kitOne K (.ref (He.ga K "Span")) (.ref (He.ga K "Span")) = some true),
  fun K => decide (PySem.W.kitOne K (.ref (He.ga K "Moment")) (.ref (He.ga K "Moment")) = some true),
  fun K => decide (PySem.W.kitOne K (.ref (He.ga K "Moment")) (.ref (He.ga K "Span")) = some false),
  fun K => decide (PySem.W.kitOne K (.type "int") (.type "int") = some true),
  fun K => decide (PySem.W.kitOne K (.type "int") (.type "bool") = some false)]
def ex (K : PySem.W.Frag) : Bool := exs.all fun f => f K
theorem ex_at {K : PySem.W.Frag} (h : ex K = true) (i : Nat) {f : PySem.W.Frag → Bool} (e : exs[i]? = some f) : f K = true := List.all_eq_true.mp (show (exs.all fun f => f K) = true from h) f (List.mem_of_getElem? e)
/-! ### what the top has left -/
structure TX (K : PySem.W.Frag) (mg : Str → Option Value) where
  fd_is_integer : FuncData
  F_is_integer : FunD K "is_integer" "is_integer" (defArgs s_is_integer) (defBody s_is_integer) (defScope s_is_integer) (He.DefD.dvs K d_is_integer) (He.DefD.kws K d_is_integer) (He.fAd K ("is_integer", none)) fd_is_integer
  b_is_integer : Binds K fd_is_integer ["thing"] []
  g_is_integer : mg "is_integer" = some (.ref (He.fAd K ("is_integer", none)))
  fd_Span_init : FuncData
  F_Span_init : FunD K "__init__" "Span.__init__" (defArgs s_Span_init) (defBody s_Span_init) (defScope s_Span_init) (He.DefD.dvs K d_Span_init) (He.DefD.kws K d_Span_init) (He.fAd K ("Span", some "__init__")) fd_Span_init
  b_Span_init : Binds K fd_Span_init ["self", "amount"] []
  m_Span_init : Meth K (He.ga K "Span") "__init__" (He.fAd K ("Span", some "__init__"))
  fd_Span_add : FuncData
  F_Span_add : FunD K "__add__" "Span.__add__" (defArgs s_Span_add) (defBody s_Span_add) (defScope s_Span_add) (He.DefD.dvs K d_Span_add) (He.DefD.kws K d_Span_add) (He.fAd K ("Span", some "__add__")) fd_Span_add
  b_Span_add : Binds K fd_Span_add ["self", "other"] []
  m_Span_add : Meth K (He.ga K "Span") "__add__" (He.fAd K ("Span", some "__add__"))
  fd_Moment_init : FuncData
  F_Moment_init : FunD K "__init__" "Moment.__init__" (defArgs s_Moment_init) (defBody s_Moment_init) (defScope s_Moment_init) (He.DefD.dvs K d_Moment_init) (He.DefD.kws K d_Moment_init) (He.fAd K ("Moment", some "__init__")) fd_Moment_init
  b_Moment_init : Binds K fd_Moment_init ["self", "at"] []
  m_Moment_init : Meth K (He.ga K "Moment") "__init__" (He.fAd K ("Moment", some "__init__"))
  fd_Moment_add : FuncData
  F_Moment_add : FunD K "__add__" "Moment.__add__" (defArgs s_Moment_add) (defBody s_Moment_add) (defScope s_Moment_add) (He.DefD.dvs K d_Moment_add) (He.DefD.kws K d_Moment_add) (He.fAd K ("Moment", some "__add__")) fd_Moment_add
  b_Moment_add : Binds K fd_Moment_add ["self", "other"] []
  m_Moment_add : Meth K (He.ga K "Moment") "__add__" (He.fAd K ("Moment", some "__add__"))
  fd_Moment_radd : FuncData
  F_Moment_radd : FunD K "__radd__" "Moment.__radd__" (defArgs s_Moment_radd) (defBody s_Moment_radd) (defScope s_Moment_radd) (He.DefD.dvs K d_Moment_radd) (He.DefD.kws K d_Moment_radd) (He.fAd K ("Moment", some "__radd__")) fd_Moment_radd
  b_Moment_radd : Binds K fd_Moment_radd ["self", "other"] []
  m_Moment_radd : Meth K (He.ga K "Moment") "__radd__" (He.fAd K ("Moment", some "__radd__"))
  fd_Moment_sub : FuncData
  F_Moment_sub : FunD K "__sub__" "Moment.__sub__" (defArgs s_Moment_sub) (defBody s_Moment_sub) (defScope s_Moment_sub) (He.DefD.dvs K d_Moment_sub) (He.DefD.kws K d_Moment_sub) (He.fAd K ("Moment", some "__sub__")) fd_Moment_sub
  b_Moment_sub : Binds K fd_Moment_sub ["self", "other"] []
  m_Moment_sub : Meth K (He.ga K "Moment") "__sub__" (He.fAd K ("Moment", some "__sub__"))
  fd_l_bag : FuncData
  F_l_bag : FunD K "_law_bag" "_law_bag" (defArgs s_l_bag) (defBody s_l_bag) (defScope s_l_bag) (He.DefD.dvs K d_l_bag) (He.DefD.kws K d_l_bag) (He.fAd K ("_law_bag", none)) fd_l_bag
  b_l_bag : Binds K fd_l_bag ["_law_script", "_law_at_here"] []
  g_l_bag : mg "_law_bag" = some (.ref (He.fAd K ("_law_bag", none)))
  fd_l_take : FuncData
  F_l_take : FunD K "_law_take" "_law_take" (defArgs s_l_take) (defBody s_l_take) (defScope s_l_take) (He.DefD.dvs K d_l_take) (He.DefD.kws K d_l_take) (He.fAd K ("_law_take", none)) fd_l_take
  b_l_take : Binds K fd_l_take ["_law_bag_here", "_law_many"] []
  g_l_take : mg "_law_take" = some (.ref (He.fAd K ("_law_take", none)))
  fd_l_number : FuncData
  F_l_number : FunD K "_law_number" "_law_number" (defArgs s_l_number) (defBody s_l_number) (defScope s_l_number) (He.DefD.dvs K d_l_number) (He.DefD.kws K d_l_number) (He.fAd K ("_law_number", none)) fd_l_number
  b_l_number : Binds K fd_l_number ["_law_bag_here"] []
  g_l_number : mg "_law_number" = some (.ref (He.fAd K ("_law_number", none)))
  fd_l_at : FuncData
  F_l_at : FunD K "_law_at" "_law_at" (defArgs s_l_at) (defBody s_l_at) (defScope s_l_at) (He.DefD.dvs K d_l_at) (He.DefD.kws K d_l_at) (He.fAd K ("_law_at", none)) fd_l_at
  b_l_at : Binds K fd_l_at ["_law_moment", "_law_at_here"] []
  g_l_at : mg "_law_at" = some (.ref (He.fAd K ("_law_at", none)))
  fd_l_is : FuncData
  F_l_is : FunD K "_law_is" "_law_is" (defArgs s_l_is) (defBody s_l_is) (defScope s_l_is) (He.DefD.dvs K d_l_is) (He.DefD.kws K d_l_is) (He.fAd K ("_law_is", none)) fd_l_is
  b_l_is : Binds K fd_l_is ["_law_span", "_law_amount"] []
  g_l_is : mg "_law_is" = some (.ref (He.fAd K ("_law_is", none)))
  fd_law : FuncData
  F_law : FunD K "law" "law" (defArgs s_law) (defBody s_law) (defScope s_law) (He.DefD.dvs K d_law) (He.DefD.kws K d_law) (He.fAd K ("law", none)) fd_law
  b_law : Binds K fd_law ["_law_script"] []
  g_law : mg "law" = some (.ref (He.fAd K ("law", none)))
  g_BadNumber : mg "BadNumber" = some (.ref (He.ga K "BadNumber"))
  g_BadGrain : mg "BadGrain" = some (.ref (He.ga K "BadGrain"))
  g_Grain : mg "Grain" = some (.ref (He.ga K "Grain"))
  cl_Grain : Cls K (He.ga K "Grain")
  mro_Grain : PySem.W.mro2 K (He.ga K "Grain") = true
  ty_Grain : OwnTy K (He.ga K "Grain")
  si_Grain : PySem.W.subIn K (.ref (He.ga K "Grain")) (.type "int") = some false
  nf_Grain : PySem.W.notFirst K (He.ga K "Grain") (.ref (He.ga K "Grain")) = true
  g_Span : mg "Span" = some (.ref (He.ga K "Span"))
  cl_Span : Cls K (He.ga K "Span")
  mk_Span : Mk K (He.ga K "Span") (He.fAd K ("Span", some "__init__"))
  n_Span_amount : NoAttr K (He.ga K "Span") "amount"
  mro_Span : PySem.W.mro2 K (He.ga K "Span") = true
  ty_Span : OwnTy K (He.ga K "Span")
  si_Span : PySem.W.subIn K (.ref (He.ga K "Span")) (.type "int") = some false
  nf_Span : PySem.W.notFirst K (He.ga K "Span") (.ref (He.ga K "Span")) = true
  g_Moment : mg "Moment" = some (.ref (He.ga K "Moment"))
  cl_Moment : Cls K (He.ga K "Moment")
  mk_Moment : Mk K (He.ga K "Moment") (He.fAd K ("Moment", some "__init__"))
  n_Moment_at : NoAttr K (He.ga K "Moment") "at"
  mro_Moment : PySem.W.mro2 K (He.ga K "Moment") = true
  ty_Moment : OwnTy K (He.ga K "Moment")
  si_Moment : PySem.W.subIn K (.ref (He.ga K "Moment")) (.type "int") = some false
  nf_Moment : PySem.W.notFirst K (He.ga K "Moment") (.ref (He.ga K "Moment")) = true
  iadd_Moment : PySem.W.findIn K (.ref (He.ga K "Moment")) "__iadd__" = some none
  isub_Moment : PySem.W.findIn K (.ref (He.ga K "Moment")) "__isub__" = some none
  n2_add_Moment_Span : PySem.W.Num2 K (He.ga K "Moment") (He.ga K "Span") "add"
  n2_add_Span_Moment : PySem.W.Num2 K (He.ga K "Span") (He.ga K "Moment") "add"
  n2_sub_Moment_Span : PySem.W.Num2 K (He.ga K "Moment") (He.ga K "Span") "sub"
  ioadd : PySem.W.findIn K (.type "object") "__iadd__" = some none
  iosub : PySem.W.findIn K (.type "object") "__isub__" = some none
  k_Span : PySem.W.kitOne K (.ref (He.ga K "Span")) (.ref (He.ga K "Span")) = some true
  k_Moment : PySem.W.kitOne K (.ref (He.ga K "Moment")) (.ref (He.ga K "Moment")) = some true
  k_Moment_Span : PySem.W.kitOne K (.ref (He.ga K "Moment")) (.ref (He.ga K "Span")) = some false
  k_int_int : PySem.W.kitOne K (.type "int") (.type "int") = some true
  k_int_bool : PySem.W.kitOne K (.type "int") (.type "bool") = some false
  f_NotImplemented : mg "NotImplemented" = none
  f_abs : mg "abs" = none
  f_bool : mg "bool" = none
  f_enumerate : mg "enumerate" = none
  f_int : mg "int" = none
  f_isinstance : mg "isinstance" = none
  f_len : mg "len" = none
  f_max : mg "max" = none
  f_min : mg "min" = none
  f_range : mg "range" = none
  f_repr : mg "repr" = none
  t_MOST_LENGTHS : Tok
  c_MOST_LENGTHS : mg "MOST_LENGTHS" = some (.int 12 t_MOST_LENGTHS)
  t_GREATEST_LENGTH : Tok
  c_GREATEST_LENGTH : mg "GREATEST_LENGTH" = some (.int 1000000000000000 t_GREATEST_LENGTH)
theorem tx_mk {w : World} {K : PySem.W.Frag} {h : Heap} {mg : Str → Option Value} (X : K.In h) (G : h.Ns mainGlobals mg) (c : He.SaysX fa fn [] [] ex w h K) : Nonempty (TX K mg) := by
  obtain ⟨fd0, F0⟩ := c.t.d.def_ 0 (d := d_is_integer) rfl
  obtain ⟨fd1, F1⟩ := c.t.d.def_ 1 (d := d_Span_init) rfl
  obtain ⟨fd2, F2⟩ := c.t.d.def_ 2 (d := d_Span_add) rfl
  obtain ⟨fd3, F3⟩ := c.t.d.def_ 3 (d := d_Moment_init) rfl
  obtain ⟨fd4, F4⟩ := c.t.d.def_ 4 (d := d_Moment_add) rfl
  obtain ⟨fd5, F5⟩ := c.t.d.def_ 5 (d := d_Moment_radd) rfl
  obtain ⟨fd6, F6⟩ := c.t.d.def_ 6 (d := d_Moment_sub) rfl
  obtain ⟨fd7, F7⟩ := c.t.d.def_ 7 (d := d_l_bag) rfl
  obtain ⟨fd8, F8⟩ := c.t.d.def_ 8 (d := d_l_take) rfl
  obtain ⟨fd9, F9⟩ := c.t.d.def_ 9 (d := d_l_number) rfl
  obtain ⟨fd10, F10⟩ := c.t.d.def_ 10 (d := d_l_at) rfl
  obtain ⟨fd11, F11⟩ := c.t.d.def_ 11 (d := d_l_is) rfl
  obtain ⟨fd12, F12⟩ := c.t.d.def_ 12 (d := d_law) rfl
  obtain ⟨TOKMOST_LENGTHS, CMOST_LENGTHS⟩ := He.int_ok X G (c.t.d.fact 36 rfl)
  obtain ⟨TOKGREATEST_LENGTH, CGREATEST_LENGTH⟩ := He.int_ok X G (c.t.d.fact 37 rfl)
  exact ⟨{
    fd_is_integer := fd0,
    F_is_integer := F0,
    b_is_integer := F0.bindsN (ps := ["thing"]) fun _ _ _ _ _ _ us hl => match us, hl with | [_], _ => rfl,
    g_is_integer := He.glo_ok X G (c.t.d.fact 0 rfl),
    fd_Span_init := fd1,
    F_Span_init := F1,
    b_Span_init := F1.bindsN (ps := ["self", "amount"]) fun _ _ _ _ _ _ us hl => match us, hl with | [_, _], _ => rfl,
    m_Span_init := He.meth_ok (c.t.d.fact 1 rfl),
    fd_Span_add := fd2,
    F_Span_add := F2,
    b_Span_add := F2.bindsN (ps := ["self", "other"]) fun _ _ _ _ _ _ us hl => match us, hl with | [_, _], _ => rfl,
    m_Span_add := He.meth_ok (c.t.d.fact 2 rfl),
    fd_Moment_init := fd3,
    F_Moment_init := F3,
    b_Moment_init := F3.bindsN (ps := ["self", "at"]) fun _ _ _ _ _ _ us hl => match us, hl with | [_, _], _ => rfl,
    m_Moment_init := He.meth_ok (c.t.d.fact 3 rfl),
    fd_Moment_add := fd4,
    F_Moment_add := F4,
    b_Moment_add := F4.bindsN (ps := ["self", "other"]) fun _ _ _ _ _ _ us hl => match us, hl with | [_, _], _ => rfl,
    m_Moment_add := He.meth_ok (c.t.d.fact 4 rfl),
    fd_Moment_radd := fd5,
    F_Moment_radd := F5,
    b_Moment_radd := F5.bindsN (ps := ["self", "other"]) fun _ _ _ _ _ _ us hl => match us, hl with | [_, _], _ => rfl,
    m_Moment_radd := He.meth_ok (c.t.d.fact 5 rfl),
    fd_Moment_sub := fd6,
    F_Moment_sub := F6,
    b_Moment_sub := F6.bindsN (ps := ["self", "other"]) fun _ _ _ _ _ _ us hl => match us, hl with | [_, _], _ => rfl,
    m_Moment_sub := He.meth_ok (c.t.d.fact 6 rfl),
    fd_l_bag := fd7,
    F_l_bag := F7,
    b_l_bag := F7.bindsN (ps := ["_law_script", "_law_at_here"]) fun _ _ _ _ _ _ us hl => match us, hl with | [_, _], _ => rfl,
    g_l_bag := He.glo_ok X G (c.t.d.fact 7 rfl),
    fd_l_take := fd8,
    F_l_take := F8,
    b_l_take := F8.bindsN (ps := ["_law_bag_here", "_law_many"]) fun _ _ _ _ _ _ us hl => match us, hl with | [_, _], _ => rfl,
    g_l_take := He.glo_ok X G (c.t.d.fact 8 rfl),
    fd_l_number := fd9,
    F_l_number := F9,
    b_l_number := F9.bindsN (ps := ["_law_bag_here"]) fun _ _ _ _ _ _ us hl => match us, hl with | [_], _ => rfl,
    g_l_number := He.glo_ok X G (c.t.d.fact 9 rfl),
    fd_l_at := fd10,
    F_l_at := F10,
    b_l_at := F10.bindsN (ps := ["_law_moment", "_law_at_here"]) fun _ _ _ _ _ _ us hl => match us, hl with | [_, _], _ => rfl,
    g_l_at := He.glo_ok X G (c.t.d.fact 10 rfl),
    fd_l_is := fd11,
    F_l_is := F11,
    b_l_is := F11.bindsN (ps := ["_law_span", "_law_amount"]) fun _ _ _ _ _ _ us hl => match us, hl with | [_, _], _ => rfl,
    g_l_is := He.glo_ok X G (c.t.d.fact 11 rfl),
    fd_law := fd12,
    F_law := F12,
    b_law := F12.bindsN (ps := ["_law_script"]) fun _ _ _ _ _ _ us hl => match us, hl with | [_], _ => rfl,
    g_law := He.glo_ok X G (c.t.d.fact 12 rfl),
    g_BadNumber := He.glo_ok X G (c.t.d.fact 13 rfl),
    g_BadGrain := He.glo_ok X G (c.t.d.fact 14 rfl),
    g_Grain := He.glo_ok X G (c.t.d.fact 15 rfl),
    cl_Grain := He.cls_ok (c.t.d.fact 16 rfl),
    mro_Grain := ex_at c.more 0 rfl,
    ty_Grain := ownTy_ok (ex_at c.more 1 rfl),
    si_Grain := of_decide_eq_true (ex_at c.more 2 rfl),
    nf_Grain := ex_at c.more 3 rfl,
    g_Span := He.glo_ok X G (c.t.d.fact 17 rfl),
    cl_Span := He.cls_ok (c.t.d.fact 18 rfl),
    mk_Span := He.mkr_ok (c.t.d.fact 19 rfl),
    n_Span_amount := He.noat_ok (c.t.d.fact 20 rfl),
    mro_Span := ex_at c.more 4 rfl,
    ty_Span := ownTy_ok (ex_at c.more 5 rfl),
    si_Span := of_decide_eq_true (ex_at c.more 6 rfl),
    nf_Span := ex_at c.more 7 rfl,
    g_Moment := He.glo_ok X G (c.t.d.fact 21 rfl),
    cl_Moment := He.cls_ok (c.t.d.fact 22 rfl),
    mk_Moment := He.mkr_ok (c.t.d.fact 23 rfl),
    n_Moment_at := He.noat_ok (c.t.d.fact 24 rfl),
    mro_Moment := ex_at c.more 8 rfl,
    ty_Moment := ownTy_ok (ex_at c.more 9 rfl),
    si_Moment := of_decide_eq_true (ex_at c.more 10 rfl),
    nf_Moment := ex_at c.more 11 rfl,
    iadd_Moment := He.eqO_ok (ex_at c.more 12 rfl),
    isub_Moment := He.eqO_ok (ex_at c.more 13 rfl),
    n2_add_Moment_Span := PySem.W.num2_ok (ex_at c.more 14 rfl),
    n2_add_Span_Moment := PySem.W.num2_ok (ex_at c.more 15 rfl),
    n2_sub_Moment_Span := PySem.W.num2_ok (ex_at c.more 16 rfl),
    ioadd := He.eqO_ok (ex_at c.more 17 rfl),
    iosub := He.eqO_ok (ex_at c.more 18 rfl),
    k_Span := of_decide_eq_true (ex_at c.more 19 rfl),
    k_Moment := of_decide_eq_true (ex_at c.more 20 rfl),
    k_Moment_Span := of_decide_eq_true (ex_at c.more 21 rfl),
    k_int_int := of_decide_eq_true (ex_at c.more 22 rfl),
    k_int_bool := of_decide_eq_true (ex_at c.more 23 rfl),
    f_NotImplemented := He.free_ok X G (c.t.d.fact 25 rfl),
    f_abs := He.free_ok X G (c.t.d.fact 26 rfl),
    f_bool := He.free_ok X G (c.t.d.fact 27 rfl),
    f_enumerate := He.free_ok X G (c.t.d.fact 28 rfl),
    f_int := He.free_ok X G (c.t.d.fact 29 rfl),
    f_isinstance := He.free_ok X G (c.t.d.fact 30 rfl),
    f_len := He.free_ok X G (c.t.d.fact 31 rfl),
    f_max := He.free_ok X G (c.t.d.fact 32 rfl),
    f_min := He.free_ok X G (c.t.d.fact 33 rfl),
    f_range := He.free_ok X G (c.t.d.fact 34 rfl),
    f_repr := He.free_ok X G (c.t.d.fact 35 rfl),
    t_MOST_LENGTHS := TOKMOST_LENGTHS,
    c_MOST_LENGTHS := CMOST_LENGTHS,
    t_GREATEST_LENGTH := TOKGREATEST_LENGTH,
    c_GREATEST_LENGTH := CGREATEST_LENGTH
  }⟩
end T06

namespace T06
open PySem PySem.Spec PyProof.Rows L2
def SpanAt (K : PySem.W.Frag) (H : Hp) (v : V) (i : Int) : Prop := ∃ a dx, v = .ref a ∧ H a = some (.ins (He.ga K "Span") dx [("amount", .int i)])
theorem imm_span {C dx : Addr} {i : Int} : imm (.ins C dx [("amount", .int i)]) = true := by
  show decide (((["amount"] : List Str)) ∈ wholeN) = true
  decide +kernel
theorem SpanAt.kp {K : PySem.W.Frag} {H H' : Hp} {v : V} {i : Int} (h : SpanAt K H v i) (k : Kp H H') : SpanAt K H' v i := by
  obtain ⟨a, dx, e, h⟩ := h
  exact ⟨a, dx, e, k _ _ h (by have := @imm_span (He.ga K "Span") dx i; exact this)⟩
theorem SpanAt.ins {K : PySem.W.Frag} {H : Hp} {x : Addr} {i : Int} (h : SpanAt K H (.ref x) i) : ∃ dx, H x = some (.ins (He.ga K "Span") dx [("amount", .int i)]) := by
  obtain ⟨a, dx, e, h⟩ := h
  injection e with e
  subst e
  exact ⟨dx, h⟩
theorem SpanAt.same {K : PySem.W.Frag} {H H' : Hp} {v : V} {i : Int} (h : SpanAt K H v i) (k : Same H H') : SpanAt K H' v i := h.kp k.kp
theorem fdiv_le (i j : Int) : (i.fdiv j).natAbs ≤ i.natAbs + 1 := by
  have h := Int.natAbs_ediv_le_natAbs i j
  rw [Int.fdiv_eq_ediv]
  split <;> omega
def sp_is_integer (K : PySem.W.Frag) : Sp := fun vs H Q _ => ∃ i, vs = [.int i] ∧ Q (.bl true) H
def sp_Span_init (K : PySem.W.Frag) : Sp := fun vs H Q _ => ∃ a dx i, vs = [.ref a, .int i] ∧ H a = some (.ins (He.ga K "Span") dx []) ∧ Q .non (upd H a (.ins (He.ga K "Span") dx [("amount", .int i)]))
theorem made_span {K : PySem.W.Frag} {H : Hp} {x dx : Addr} (i : Int) (nx : H x = none) (nd : H dx = none) : ∃ H', upd (upd (upd H dx (.own x)) x (.ins (He.ga K "Span") dx [])) x (.ins (He.ga K "Span") dx [("amount", .int i)]) = H' ∧ Same H H' ∧ SpanAt K H' (.ref x) i :=
  ⟨_, rfl, same_make nx nd, _, _, rfl, upd_same⟩
/-- two spans: a span of the amount g i j -/
def spSS (K : PySem.W.Frag) (g : Int → Int → Int) : Sp := fun vs H Q _ => ∃ x y i j, vs = [x, y] ∧ SpanAt K H x i ∧ SpanAt K H y j ∧ ∀ v H', Same H H' → SpanAt K H' v (g i j) → Q v H'
def spS (K : PySem.W.Frag) (g : Int → Int) : Sp := fun vs H Q _ => ∃ x i, vs = [x] ∧ SpanAt K H x i ∧ ∀ v H', Same H H' → SpanAt K H' v (g i) → Q v H'
def spSI (K : PySem.W.Frag) (g : Int → Int → Int) : Sp := fun vs H Q _ => ∃ x i j, vs = [x, .int j] ∧ SpanAt K H x i ∧ CMulW i j ∧ CMulW j i ∧ ∀ v H', Same H H' → SpanAt K H' v (g i j) → Q v H'
def sp_Span_add (K : PySem.W.Frag) : Sp := spSS K fun i j => i + j
def sp_Span_sub (K : PySem.W.Frag) : Sp := spSS K fun i j => i - j
def sp_Span_neg (K : PySem.W.Frag) : Sp := spS K fun i => -i
def sp_Span_abs (K : PySem.W.Frag) : Sp := spS K fun i => if i ≥ 0 then i else -i
def sp_Span_mul (K : PySem.W.Frag) : Sp := spSI K fun i j => i * j
def sp_Span_rmul (K : PySem.W.Frag) : Sp := spSI K fun i j => j * i
def sp_Span_bool (K : PySem.W.Frag) : Sp := fun vs H Q _ => ∃ x i, vs = [x] ∧ SpanAt K H x i ∧ Q (.bl (decide (i ≠ 0))) H
def sp_Span_floordiv (K : PySem.W.Frag) : Sp := fun vs H Q E => ∃ x y i j, vs = [x, y] ∧ SpanAt K H x i ∧ SpanAt K H y j ∧ j.natAbs < 2 ^ 200 ∧ (j ≠ 0 → Q (.int (i.fdiv j)) H) ∧ (j = 0 → ∀ d, E (.type "ZeroDivisionError") d H)
def sp_Span_mod (K : PySem.W.Frag) : Sp := fun vs H Q E => ∃ x y i j, vs = [x, y] ∧ SpanAt K H x i ∧ SpanAt K H y j ∧ (j ≠ 0 → ∀ v H', Same H H' → SpanAt K H' v (i.fmod j) → Q v H') ∧ (j = 0 → ∀ d, E (.type "ZeroDivisionError") d H)
def MomentAt (K : PySem.W.Frag) (H : Hp) (v : V) (i : Int) : Prop := ∃ a dx, v = .ref a ∧ H a = some (.ins (He.ga K "Moment") dx [("at", .int i)])
theorem imm_moment {C dx : Addr} {i : Int} : imm (.ins C dx [("at", .int i)]) = true := by
  show decide ((["at"] : List Str) ∈ wholeN) = true
  decide +kernel
theorem MomentAt.kp {K : PySem.W.Frag} {H H' : Hp} {v : V} {i : Int} (h : MomentAt K H v i) (k : Kp H H') : MomentAt K H' v i := by
  obtain ⟨a, dx, e, h⟩ := h
  exact ⟨a, dx, e, k _ _ h (by have := @imm_moment (He.ga K "Moment") dx i; exact this)⟩
theorem MomentAt.same {K : PySem.W.Frag} {H H' : Hp} {v : V} {i : Int} (h : MomentAt K H v i) (k : Same H H') : MomentAt K H' v i := h.kp k.kp
theorem MomentAt.ins {K : PySem.W.Frag} {H : Hp} {x : Addr} {i : Int} (h : MomentAt K H (.ref x) i) : ∃ dx, H x = some (.ins (He.ga K "Moment") dx [("at", .int i)]) := by
  obtain ⟨a, dx, e, h⟩ := h
  injection e with e
  subst e
  exact ⟨dx, h⟩
theorem made_moment {K : PySem.W.Frag} {H : Hp} {x dx : Addr} (i : Int) (nx : H x = none) (nd : H dx = none) : ∃ H', upd (upd (upd H dx (.own x)) x (.ins (He.ga K "Moment") dx [])) x (.ins (He.ga K "Moment") dx [("at", .int i)]) = H' ∧ Same H H' ∧ MomentAt K H' (.ref x) i :=
  ⟨_, rfl, same_make nx nd, _, _, rfl, upd_same⟩
def sp_Moment_init (K : PySem.W.Frag) : Sp := fun vs H Q _ => ∃ a dx i, vs = [.ref a, .int i] ∧ H a = some (.ins (He.ga K "Moment") dx []) ∧ Q .non (upd H a (.ins (He.ga K "Moment") dx [("at", .int i)]))
/-- a moment and a span: a moment at g i j -/
def spMS (K : PySem.W.Frag) (g : Int → Int → Int) : Sp := fun vs H Q _ => ∃ x y i j, vs = [x, y] ∧ MomentAt K H x i ∧ SpanAt K H y j ∧ ∀ v H', Same H H' → MomentAt K H' v (g i j) → Q v H'
def sp_Moment_add (K : PySem.W.Frag) : Sp := spMS K fun i j => i + j
def sp_Moment_radd (K : PySem.W.Frag) : Sp := spMS K fun i j => i + j
def sp_Moment_sub (K : PySem.W.Frag) : Sp := fun vs H Q _ => ∃ x y i j, vs = [x, y] ∧ MomentAt K H x i ∧
  ((SpanAt K H y j ∧ ∀ v H', Same H H' → MomentAt K H' v (i - j) → Q v H') ∨ (MomentAt K H y j ∧ ∀ v H', Same H H' → SpanAt K H' v (i - j) → Q v H'))
/-- a span plus a moment: the span declines -/
def pre_Span_add (K : PySem.W.Frag) : List V → Hp → Prop := fun vs H => ∃ x y i j, vs = [x, y] ∧ SpanAt K H x i ∧ MomentAt K H y j
def sp_l_bag (K : PySem.W.Frag) : Sp := spBag K
def sp_l_take (K : PySem.W.Frag) : Sp := spTake
def sp_l_number (K : PySem.W.Frag) : Sp := spDraw 90
def sp_l_is (K : PySem.W.Frag) : Sp := fun vs H Q _ => ∃ x i j, vs = [x, .int j] ∧ SpanAt K H x i ∧ i.natAbs < 2 ^ 200 ∧ i = j ∧ Q (.bl true) H
def sp_l_at (K : PySem.W.Frag) : Sp := fun vs H Q _ => ∃ x i j, vs = [x, .int j] ∧ MomentAt K H x i ∧ i.natAbs < 2 ^ 200 ∧ i = j ∧ Q (.bl true) H
def sp_law (K : PySem.W.Frag) : Sp := fun vs H Q _ => ∃ (a : Addr) (ns : List Int), vs = [.ref a] ∧ SqL K H a (ns.map V.int) ∧ ns.length ≤ 63 ∧ ∀ H', Q (.bl true) H'
section
variable {P : Program} {w : World} {K : PySem.W.Frag} {mg : Str → Option Value} {base : Heap}
theorem sc_is_integer : FnScope ["thing"] ["thing"] (defScope s_is_integer) := ⟨rfl, rfl, rfl, by decide +kernel, rfl, by decide +kernel, by decide +kernel⟩
set_option maxHeartbeats 4000000 in
theorem ok_is_integer (T : TX K mg) : FnOk P w K mg base CX0 1 (He.fAd K ("is_integer", none)) T.fd_is_integer ["thing"] (sp_is_integer K) := by
  refine T.F_is_integer.ok (k := 0) sc_is_integer (fun vs H Q E h => ?_) (fun cdv A outer s H vs Q E hr h => ⟨_, PSs.nox (by exact (pss_one (ps_ret (pe_and (pe_callB call_isi (by rfl) T.f_isinstance (by decide +kernel) (pa_cons (pv 0) (pa_cons (pe_bltn (v := .ty "int") (by rfl) T.f_int (by decide +kernel) rfl) pa_nil))) (pe_one (pe_not (pe_callB call_isi (by rfl) T.f_isinstance (by decide +kernel) (pa_cons (pv 0) (pa_cons (pe_bltn (v := .ty "bool") (by rfl) T.f_bool (by decide +kernel) rfl) pa_nil))))))))), ?_⟩)
  · obtain ⟨i, rfl, _⟩ := h
    rfl
  · obtain ⟨i, rfl, q⟩ := h
    exact ⟨_, rfl, _, _, _, _, _, rfl, .ty "int", .base (.int i), T.k_int_int, true, rfl, iteT ⟨_, rfl, _, _, _, _, _, rfl, .ty "bool", .base (.int i), T.k_int_bool, _, rfl, q⟩⟩
theorem sc_l_bag : FnScope ["_law_script", "_law_at_here", "_law_cell", "_law_mixed", "_law_k", "_law_each"] ["_law_script", "_law_at_here"] (defScope s_l_bag) := ⟨rfl, rfl, rfl, by decide +kernel, rfl, by decide +kernel, by decide +kernel⟩
set_option maxHeartbeats 4000000 in
theorem ok_l_bag (T : TX K mg) : FnOk P w K mg base CX0 1 (He.fAd K ("_law_bag", none)) T.fd_l_bag ["_law_script", "_law_at_here"] (sp_l_bag K) := by
  refine T.F_l_bag.ok (k := 0) sc_l_bag (fun vs H Q E h => ?_) (fun cdv A outer s H vs Q E hr h => ⟨_, PSs.nox (by exact (pss_cons (ps_set (i := 2) sc_l_bag.nd rfl (Or.inl rfl) (pe_cut (pe_ifExp (pt_cmpR op_lt (pv 1) (pe_callB call_len (by rfl) T.f_len PySem.boot_len (pa_cons (pv 0) pa_nil)) (nomark _)) (pe_ix ix_list (pv 0) (pv 1) (fun _ _ => rfl)) pe_int)))
      (pss_cons (ps_set (i := 3) sc_l_bag.nd rfl (Or.inl rfl) (pe_op op_add (pe_op op_mulW pe_int (pv 1)) pe_int))
      (pss_cons (ps_for PassesOwn.never rfl (pi_enum (by rfl) T.f_enumerate (pa_cons (pe_slice sl_list (pv 0) po_none (po_some pe_int)) pa_nil)) (pg_tup rfl (pgs_cons (pg_name (i := 4) sc_l_bag.nd rfl (Or.inl rfl)) (pgs_cons (pg_name (i := 5) sc_l_bag.nd rfl (Or.inl rfl)) pgs_nil)))
      (pss_one (ps_set (i := 3) sc_l_bag.nd rfl (Or.inl rfl) (pe_op op_mod (pe_callTy call_int1 (by rfl) T.f_int (by decide +kernel) (pa_cons (pe_op op_add (pe_op op_add (pe_op op_mulW (pv 3) pe_int) (pe_op op_mod (pe_callTy call_int1 (by rfl) T.f_int (by decide +kernel) (pa_cons (pv 5) pa_nil)) pe_int)) (pe_op op_mulW pe_int (pv 4))) pa_nil)) pe_int))))
      (pss_one (ps_ret (pe_lst (pa_cons (pe_cut (pe_ifExp (pt_cmpR op_ge (pe_callB call_abs (by rfl) T.f_abs (by decide +kernel) (pa_cons (pv 2) pa_nil)) (pe_op op_pow pe_int pe_int) (nomark _)) (pe_callB call_abs (by rfl) T.f_abs (by decide +kernel) (pa_cons (pv 2) pa_nil)) pe_int)) (pa_cons (pv 3) pa_nil))))))))), ?_⟩)
  · obtain ⟨a, ns, at_, rfl, _⟩ := h
    rfl
  · obtain ⟨a, ns, at_, rfl, hS, hlen, h0, h64, q⟩ := h
    have hsz : (ns.map V.int).length ≤ 63 := by rw [List.length_map]; exact hlen
    have hc : (cutV (ns.map V.int) none (some 63)).length ≤ 63 := Nat.le_trans (cutV_length _ _ _) hsz
    refine ⟨fun v H' => (∃ c, v = V.int c) ∧ H = H', ?_, ?_⟩
    · refine ⟨_, rfl, _, rfl, _, _, rfl, Or.inl ⟨_, hS, rfl⟩, _, _, rfl, rfl, _, rfl, ite2 (fun h => ?_) (fun h => ?_)⟩
      · have h1 : at_ < ((ns.map V.int).length : Int) := of_decide_eq_true h
        rw [List.length_map] at h1
        have hx : at_.toNat < ns.length := by omega
        refine ⟨_, rfl, _, rfl, _, _, _, V.int ns[at_.toNat], rfl, rfl, hS, ?_, ⟨_, rfl⟩, rfl⟩
        exact atI_pos h0 (by rw [List.getElem?_map, List.getElem?_eq_getElem hx]; rfl)
      · exact ⟨⟨_, rfl⟩, rfl⟩
    · rintro _ _ ⟨⟨c, rfl⟩, rfl⟩
      refine ⟨_, rfl, _, _, rfl, rfl, mulW 64 64 (by decide) (lt64 (by omega) (by omega)), _, _, rfl, rfl, ?_⟩
      refine ⟨_, rfl, _, rfl, _, _, rfl, hS, fun p np => ?_⟩
      refine ⟨_, _, rfl, SqL.of upd_same, for_enum (K := K) (a := p) (xs := cutV (ns.map V.int) none (some 63)) (fun i σ H' => ∃ (m : Int) (v4 v5 : Option V), σ = [some (.ref a), some (.int at_), some (.int c), some (.int m), v4, v5] ∧ 0 ≤ m ∧ m < 2 ^ 40 ∧ Same H' H' ∧ Same (upd H p (.lst (cutV (ns.map V.int) none (some 63)))) H')
        ⟨_, none, none, rfl, by omega, by omega, Same.refl _, Same.refl _⟩ (fun i σ H' _ ⟨m, v4, v5, _, _, _, _, sm⟩ => SqL.of (sm _ _ upd_same)) ?_ ?_⟩
      · rintro i x σ H1 T hx ⟨m, v4, v5, rfl, hm0, hm1, _, sm⟩ nT
        have hi : i < 63 := Nat.lt_of_lt_of_le (List.getElem?_eq_some_iff.mp hx).1 hc
        obtain ⟨z, rfl⟩ : ∃ z : Int, x = V.int z := by
          have hmem : x ∈ ns.map V.int := List.mem_of_mem_drop (List.mem_of_mem_take (List.mem_of_getElem? hx))
          obtain ⟨z, _, e⟩ := List.mem_map.mp hmem
          exact ⟨z, e.symm⟩
        refine g_pair upd_same ?_
        refine ⟨_, rfl, _, _, rfl, rfl, mulW 64 64 (lt64 (by omega) (by omega)) (by decide), _, rfl, .inl ⟨_, rfl, _, _, rfl, rfl, (show (0 : Int) < _ by decide), _, _, rfl, rfl, _, rfl, _, _, rfl, rfl, mulW 64 64 (by decide) (lt64 (by omega) (by omega)), _, _, rfl, rfl, .inl ⟨_, rfl, _, _, rfl, rfl, (show (0 : Int) < _ by decide), ?_⟩⟩⟩
        refine ⟨_, _, _, rfl, Int.emod_nonneg _ (by decide), ?_, Same.refl _, sm.trans (Same.new nT)⟩
        omega
      · rintro σ H1 ⟨m, v4, v5, rfl, hm0, hm1, _, sm⟩
        have s0 : Same H H1 := (Same.new np).trans sm
        refine ⟨fun v H' => (∃ c : Int, v = V.int c ∧ 0 ≤ c) ∧ H1 = H', ?_, ?_⟩
        · refine ⟨_, rfl, _, rfl, _, _, rfl, rfl, ⟨by decide, by decide, by decide⟩, _, _, rfl, rfl, _, rfl, ite2 (fun h => ?_) (fun h => ?_)⟩
          · refine ⟨_, rfl, _, rfl, ⟨_, rfl, ?_⟩, rfl⟩
            split <;> omega
          · exact ⟨⟨_, rfl, Int.le_refl _⟩, rfl⟩
        · rintro _ _ ⟨⟨d, rfl, hd⟩, rfl⟩
          refine ⟨_, rfl, (show 2 ≤ sizeLine by decide), fun l nl => ?_⟩
          exact q l _ (s0.free nl) (s0.put (s0.free nl)) ⟨_, _, upd_same, hd, hm0, hm1⟩
theorem sc_l_take : FnScope ["_law_bag_here", "_law_many", "_law_digit"] ["_law_bag_here", "_law_many"] (defScope s_l_take) := ⟨rfl, rfl, rfl, by decide +kernel, rfl, by decide +kernel, by decide +kernel⟩
set_option maxHeartbeats 4000000 in
theorem ok_l_take (T : TX K mg) : FnOk P w K mg base CX0 1 (He.fAd K ("_law_take", none)) T.fd_l_take ["_law_bag_here", "_law_many"] (sp_l_take K) := by
  refine T.F_l_take.ok (k := 0) sc_l_take (fun vs H Q E h => ?_) (fun cdv A outer s H vs Q E hr h => ⟨_, PSs.nox (by exact (pss_cons (ps_if (pt_cmpR op_gt (pe_ix ix_list (pv 0) pe_int (fun _ _ => rfl)) pe_int (nomark _)) (pss_cons (ps_set (i := 2) sc_l_take.nd rfl (Or.inl rfl) (pe_op op_mod (pe_callTy call_int1 (by rfl) T.f_int (by decide +kernel) (pa_cons (pe_ix ix_list (pv 0) pe_int (fun _ _ => rfl)) pa_nil)) (pv 1)))
      (pss_cons (ps_asg (pe_op op_fdivW (pe_ix ix_list (pv 0) pe_int (fun _ _ => rfl)) (pv 1)) (pg_sub (pv 0) pe_int set_list))
      (pss_one (ps_ret (pv 2))))) pss_nil)
      (pss_cons (ps_asg (pe_op op_mod (pe_callTy call_int1 (by rfl) T.f_int (by decide +kernel) (pa_cons (pe_op op_add (pe_op op_mulW (pe_ix ix_list (pv 0) pe_int (fun _ _ => rfl)) pe_int) pe_int) pa_nil)) pe_int) (pg_sub (pv 0) pe_int set_list))
      (pss_one (ps_ret (pe_op op_mod (pe_op op_fdivW (pe_op op_mod (pe_callTy call_int1 (by rfl) T.f_int (by decide +kernel) (pa_cons (pe_op op_mulW (pe_op op_fdivW (pe_ix ix_list (pv 0) pe_int (fun _ _ => rfl)) pe_int) pe_int) pa_nil)) pe_int) pe_int) (pv 1))))))), ?_⟩)
  · obtain ⟨l, many, rfl, _⟩ := h
    rfl
  · obtain ⟨l, many, rfl, ⟨a, b, hl, ha, hb, hb2⟩, hm, hm9, q⟩ := h
    refine ⟨_, rfl, _, _, _, _, rfl, rfl, SqL.of hl, rfl, _, _, rfl, rfl, _, rfl, ite2 (fun h => ?_) (fun h => ?_)⟩
    · refine ⟨_, rfl, _, _, _, _, rfl, rfl, SqL.of hl, rfl, .inl ⟨_, rfl, _, rfl, _, _, rfl, rfl, hm, ?_⟩⟩
      refine ⟨_, rfl, _, _, _, _, rfl, rfl, SqL.of hl, rfl, _, rfl, _, _, rfl, rfl, ⟨hm, hm9⟩, _, rfl, _, _, _, _, rfl, rfl, hl, rfl, ?_⟩
      refine ⟨_, rfl, q _ _ (Int.emod_nonneg _ (by omega)) (Int.emod_lt_of_pos _ hm) But.upd ⟨_, _, upd_same, ?_, hb, hb2⟩⟩
      exact Int.ediv_nonneg ha (by omega)
    · have e40 : (2 : Int) ^ 40 = 1099511627776 := by decide
      refine ⟨_, rfl, _, _, _, _, rfl, rfl, SqL.of hl, rfl, _, _, rfl, rfl, mulW 64 64 (lt64 (by omega) (by omega)) (by decide), _, _, rfl, rfl, .inl ⟨_, rfl, _, _, rfl, rfl, (show (0 : Int) < _ by decide), _, rfl, _, _, _, _, rfl, rfl, hl, rfl, ?_⟩⟩
      refine ⟨_, rfl, _, _, _, _, rfl, rfl, SqL.of upd_same, rfl, _, _, rfl, rfl, ⟨by decide, by decide⟩, _, _, rfl, rfl, mulW 64 64 (lt64 (by omega) (by omega)) (by decide), .inl ⟨_, rfl, _, _, rfl, rfl, (show (0 : Int) < _ by decide), _, _, rfl, rfl, ⟨by decide, by decide⟩, _, rfl, _, _, rfl, rfl, hm, ?_⟩⟩
      refine q _ _ (Int.emod_nonneg _ (by omega)) (Int.emod_lt_of_pos _ hm) But.upd ⟨_, _, upd_same, ha, Int.emod_nonneg _ (by decide), ?_⟩
      omega
theorem sc_l_at : FnScope ["_law_moment", "_law_at_here"] ["_law_moment", "_law_at_here"] (defScope s_l_at) := ⟨rfl, rfl, rfl, by decide +kernel, rfl, by decide +kernel, by decide +kernel⟩
set_option maxHeartbeats 4000000 in
theorem ok_l_at (T : TX K mg) : FnOk P w K mg base CX0 1 (He.fAd K ("_law_at", none)) T.fd_l_at ["_law_moment", "_law_at_here"] (sp_l_at K) := by
  refine T.F_l_at.ok (k := 0) sc_l_at (fun vs H Q E h => ?_) (fun cdv A outer s H vs Q E hr h => ⟨_, PSs.nox (by exact (pss_one (ps_ret (pe_and (pe_callB call_isi (by rfl) T.f_isinstance (by decide +kernel) (pa_cons (pv 0) (pa_cons (pe_glob (v := .ref _) rfl T.g_Moment rfl) pa_nil))) (pe_one (pe_cmpR op_eq (pe_callB SkE.call_repr_int (by rfl) T.f_repr (by decide +kernel) (pa_cons (pe_fld (pv 0) rfl) pa_nil)) (pe_callB SkE.call_repr_int (by rfl) T.f_repr (by decide +kernel) (pa_cons (pv 1) pa_nil)) (nomark _))))))), ?_⟩)
  · obtain ⟨x, i, j, rfl, _⟩ := h
    rfl
  · obtain ⟨x, i, j, rfl, ⟨a, dx, rfl, ha⟩, hi, rfl, q⟩ := h
    refine ⟨_, rfl, _, _, _, _, _, rfl, .own _, tyx_own ha T.cl_Moment T.ty_Moment, T.k_Moment, true, rfl, iteT ?_⟩
    refine ⟨_, rfl, _, _, _, _, _, rfl, ha, T.cl_Moment, T.n_Moment_at, rfl, _, rfl, log2_lt' (by decide) hi (by decide), _, rfl, _, rfl, log2_lt' (by decide) hi (by decide), rfl, ?_⟩
    have e : decide (V.str (toString i) = V.str (toString i)) = true := decide_eq_true rfl
    rw [e]
    exact q
theorem sc_l_is : FnScope ["_law_span", "_law_amount"] ["_law_span", "_law_amount"] (defScope s_l_is) := ⟨rfl, rfl, rfl, by decide +kernel, rfl, by decide +kernel, by decide +kernel⟩
set_option maxHeartbeats 4000000 in
theorem ok_l_is (T : TX K mg) : FnOk P w K mg base CX0 1 (He.fAd K ("_law_is", none)) T.fd_l_is ["_law_span", "_law_amount"] (sp_l_is K) := by
  refine T.F_l_is.ok (k := 0) sc_l_is (fun vs H Q E h => ?_) (fun cdv A outer s H vs Q E hr h => ⟨_, PSs.nox (by exact (pss_one (ps_ret (pe_and (pe_callB call_isi (by rfl) T.f_isinstance (by decide +kernel) (pa_cons (pv 0) (pa_cons (pe_glob (v := .ref _) rfl T.g_Span rfl) pa_nil))) (pe_one (pe_cmpR op_eq (pe_callB SkE.call_repr_int (by rfl) T.f_repr (by decide +kernel) (pa_cons (pe_fld (pv 0) rfl) pa_nil)) (pe_callB SkE.call_repr_int (by rfl) T.f_repr (by decide +kernel) (pa_cons (pv 1) pa_nil)) (nomark _))))))), ?_⟩)
  · obtain ⟨x, i, j, rfl, _⟩ := h
    rfl
  · obtain ⟨x, i, j, rfl, ⟨a, dx, rfl, ha⟩, hi, rfl, q⟩ := h
    refine ⟨_, rfl, _, _, _, _, _, rfl, .own _, tyx_own ha T.cl_Span T.ty_Span, T.k_Span, true, rfl, iteT ?_⟩
    refine ⟨_, rfl, _, _, _, _, _, rfl, ha, T.cl_Span, T.n_Span_amount, rfl, _, rfl, log2_lt' (by decide) hi (by decide), _, rfl, _, rfl, log2_lt' (by decide) hi (by decide), rfl, ?_⟩
    have e : decide (V.str (toString i) = V.str (toString i)) = true := decide_eq_true rfl
    rw [e]
    exact q
theorem sc_Span_init : FnScope ["self", "amount"] ["self", "amount"] (defScope s_Span_init) := ⟨rfl, rfl, rfl, by decide +kernel, rfl, by decide +kernel, by decide +kernel⟩
set_option maxHeartbeats 4000000 in
theorem ok_Span_init (T : TX K mg) : FnOk P w K mg base CX0 4 (He.fAd K ("Span", some "__init__")) T.fd_Span_init ["self", "amount"] (sp_Span_init K) := by
  refine T.F_Span_init.ok (k := 3) sc_Span_init (fun vs H Q E h => ?_) (fun cdv A outer s H vs Q E hr h => ⟨_, PSs.nox (by exact (pss_cons (ps_if (pt_not (pt_val (pe_call (ok_is_integer T) (hr.mono (by decide)) rfl T.g_is_integer T.F_is_integer.kp T.b_is_integer .nil pass0 (pa_cons (pv 1) pa_nil)))) (pss_one ps_never) pss_nil)
      (pss_one (ps_fld (pv 0) (pv 1) rfl)))), ?_⟩)
  · obtain ⟨a, dx, i, rfl, _⟩ := h
    rfl
  · obtain ⟨a, dx, i, rfl, ha, q⟩ := h
    refine ⟨_, rfl, i, rfl, true, rfl, iteF ?_⟩
    refine ⟨_, rfl, _, rfl, _, _, _, _, rfl, ha, T.cl_Span, T.n_Span_amount, by decide, ?_⟩
    exact q
theorem sc_Moment_init : FnScope ["self", "at"] ["self", "at"] (defScope s_Moment_init) := ⟨rfl, rfl, rfl, by decide +kernel, rfl, by decide +kernel, by decide +kernel⟩
set_option maxHeartbeats 4000000 in
theorem ok_Moment_init (T : TX K mg) : FnOk P w K mg base CX0 4 (He.fAd K ("Moment", some "__init__")) T.fd_Moment_init ["self", "at"] (sp_Moment_init K) := by
  refine T.F_Moment_init.ok (k := 3) sc_Moment_init (fun vs H Q E h => ?_) (fun cdv A outer s H vs Q E hr h => ⟨_, PSs.nox (by exact (pss_cons (ps_if (pt_not (pt_val (pe_call (ok_is_integer T) (hr.mono (by decide)) rfl T.g_is_integer T.F_is_integer.kp T.b_is_integer .nil pass0 (pa_cons (pv 1) pa_nil)))) (pss_one ps_never) pss_nil)
      (pss_one (ps_fld (pv 0) (pv 1) rfl)))), ?_⟩)
  · obtain ⟨a, dx, i, rfl, _⟩ := h
    rfl
  · obtain ⟨a, dx, i, rfl, ha, q⟩ := h
    refine ⟨_, rfl, i, rfl, true, rfl, iteF ?_⟩
    refine ⟨_, rfl, _, rfl, _, _, _, _, rfl, ha, T.cl_Moment, T.n_Moment_at, by decide, ?_⟩
    exact q
theorem sc_l_number : FnScope ["_law_bag_here", "_law_number_here", "_law_turn"] ["_law_bag_here"] (defScope s_l_number) := ⟨rfl, rfl, rfl, by decide +kernel, rfl, by decide +kernel, by decide +kernel⟩
set_option maxHeartbeats 4000000 in
theorem ok_l_number (T : TX K mg) : FnOk P w K mg base CX0 4 (He.fAd K ("_law_number", none)) T.fd_l_number ["_law_bag_here"] (sp_l_number K) := by
  refine T.F_l_number.ok (k := 3) sc_l_number (fun vs H Q E h => ?_) (fun cdv A outer s H vs Q E hr h => ⟨_, PSs.nox (by exact (pss_cons (ps_set (i := 1) sc_l_number.nd rfl (Or.inl rfl) pe_int)
      (pss_cons (ps_for PassesOwn.never rfl (pi_range1 (by rfl) T.f_range (pa_cons (pe_call (ok_l_take T) (hr.mono (by decide)) rfl T.g_l_take T.F_l_take.kp T.b_l_take .nil pass0 (pa_cons (pv 0) (pa_cons pe_int pa_nil))) pa_nil)) (pg_name (i := 2) sc_l_number.nd rfl (Or.inl rfl))
      (pss_one (ps_set (i := 1) sc_l_number.nd rfl (Or.inl rfl) (pe_op op_add (pe_op op_mulW (pv 1) (pe_op op_pow pe_int pe_int)) (pe_call (ok_l_take T) (hr.mono (by decide)) rfl T.g_l_take T.F_l_take.kp T.b_l_take .nil pass0 (pa_cons (pv 0) (pa_cons (pe_op op_pow pe_int pe_int) pa_nil)))))))
      (pss_one (ps_ret (pe_cut (pe_ifExp (pt_cmpR op_eq (pe_call (ok_l_take T) (hr.mono (by decide)) rfl T.g_l_take T.F_l_take.kp T.b_l_take .nil pass0 (pa_cons (pv 0) (pa_cons pe_int pa_nil))) pe_int (nomark _)) (pe_un un_neg (pv 1)) (pv 1)))))))), ?_⟩)
  · obtain ⟨l, rfl, _⟩ := h
    rfl
  · obtain ⟨l, rfl, hB, q⟩ := h
    refine ⟨_, rfl, _, _, rfl, hB, by decide, by decide, fun d H1 d0 d1 c1 B1 => ?_⟩
    refine ⟨_, rfl, by omega, by omega, for_range (lo := 0) (n := d.toNat) (fun i σ H' => ∃ (m : Int) (v : Option V), σ = [some (.ref l), some (.int m), v] ∧ m.natAbs < 2 ^ (21 * i + 1) ∧ But l H H' ∧ BagAt H' l)
      ⟨0, none, rfl, by decide, c1, B1⟩ ?_ ?_⟩
    · rintro i σ H2 hi ⟨m, v, rfl, hm, c2, B2⟩
      have hi4 : i < 4 := by omega
      have hm90 : m.natAbs < 2 ^ 90 := nat_pow_mono hm (by omega)
      refine ⟨_, rfl, _, _, rfl, rfl, ⟨by decide, by decide, by decide⟩, _, _, rfl, rfl, mulW 90 64 hm90 (by decide), _, rfl, _, _, rfl, rfl, ⟨by decide, by decide, by decide⟩, _, _, rfl, B2, by decide, by decide, fun d H4 d0 d1 c4 B4 => ?_⟩
      refine ⟨_, _, rfl, rfl, _, _, rfl, ?_, c2.trans c4, B4⟩
      have e6 : (10 : Int) ^ (6 : Int).toNat = 1000000 := by decide
      rw [e6] at d1 ⊢
      have e2 : 2 ^ (21 * (i + 1) + 1) = 2 ^ (21 * i + 1) * 2 ^ 21 := by rw [← Nat.pow_add]; congr 1
      have e3 : (2 : Nat) ^ 21 = 2097152 := by decide
      rw [e2, e3]
      omega
    · rintro σ H2 ⟨m, v, rfl, hm, c2, B2⟩
      have hm90 : m.natAbs < 2 ^ 90 := nat_pow_mono hm (by omega)
      refine ⟨fun v H' => (∃ z : Int, v = V.int z ∧ z.natAbs < 2 ^ 90) ∧ But l H H' ∧ BagAt H' l, ?_, ?_⟩
      · refine ⟨_, rfl, _, _, rfl, B2, by decide, by decide, fun e H3 e0 e1 c3 B3 => ⟨rfl, _, rfl, ite2 (fun h => ?_) (fun h => ?_)⟩⟩
        · exact ⟨_, rfl, _, rfl, ⟨_, rfl, by rw [Int.natAbs_neg]; exact hm90⟩, c2.trans c3, B3⟩
        · exact ⟨_, rfl, ⟨_, rfl, hm90⟩, c2.trans c3, B3⟩
      · rintro _ H3 ⟨⟨z, rfl, hz⟩, c3, B3⟩
        exact q z H3 hz c3 B3
theorem sc_Span_add : FnScope ["self", "other"] ["self", "other"] (defScope s_Span_add) := ⟨rfl, rfl, rfl, by decide +kernel, rfl, by decide +kernel, by decide +kernel⟩
set_option maxHeartbeats 4000000 in
theorem ni_Span_add (T : TX K mg) : FnNI P w K mg base 7 (He.fAd K ("Span", some "__add__")) T.fd_Span_add ["self", "other"] (pre_Span_add K) := by
  refine FunD.ni (k := 6) (by exact T.F_Span_add) sc_Span_add T.f_NotImplemented (fun vs H h => ?_) (fun cdv A outer s H vs hr h => ⟨rfl, _, (by exact (pt_not (pt_val (pe_callB call_isi (by rfl) T.f_isinstance (by decide +kernel) (pa_cons (pv 1) (pa_cons (pe_glob (v := .ref _) rfl T.g_Span rfl) pa_nil)))))), ?_⟩)
  · obtain ⟨x, y, i, j, rfl, _⟩ := h
    rfl
  · obtain ⟨x, y, i, j, rfl, ⟨a, dx, rfl, ha⟩, ⟨b, dy, rfl, hb⟩⟩ := h
    exact ⟨_, rfl, _, _, _, _, _, rfl, .own _, tyx_own hb T.cl_Moment T.ty_Moment, T.k_Moment_Span, false, rfl, rfl, rfl⟩
set_option maxHeartbeats 4000000 in
theorem ok_Span_add (T : TX K mg) : FnOk P w K mg base CX0 7 (He.fAd K ("Span", some "__add__")) T.fd_Span_add ["self", "other"] (sp_Span_add K) := by
  refine T.F_Span_add.ok (k := 6) sc_Span_add (fun vs H Q E h => ?_) (fun cdv A outer s H vs Q E hr h => ⟨_, PSs.nox (by exact (pss_cons (ps_if (pt_not (pt_val (pe_callB call_isi (by rfl) T.f_isinstance (by decide +kernel) (pa_cons (pv 1) (pa_cons (pe_glob (v := .ref _) rfl T.g_Span rfl) pa_nil))))) (pss_one ps_never) pss_nil)
      (pss_one (ps_ret (pe_make T.mk_Span (ok_Span_init T) (hr.mono (by decide)) rfl T.g_Span T.b_Span_init .nil pass0 (pa_cons (pe_op op_add (pe_fld (pv 0) rfl) (pe_fld (pv 1) rfl)) pa_nil)))))), ?_⟩)
  · obtain ⟨x, y, i, j, rfl, _⟩ := h
    rfl
  · obtain ⟨x, y, i, j, rfl, ⟨a, dx, rfl, ha⟩, ⟨b, dy, rfl, hb⟩, q⟩ := h
    refine ⟨_, rfl, _, _, _, _, _, rfl, .own _, tyx_own hb T.cl_Span T.ty_Span, T.k_Span, true, rfl, iteF ?_⟩
    refine ⟨_, rfl, _, _, _, _, _, rfl, ha, T.cl_Span, T.n_Span_amount, rfl, _, rfl, _, _, _, _, _, rfl, hb, T.cl_Span, T.n_Span_amount, rfl, _, _, rfl, rfl, fun p dp np nd ne => ?_⟩
    exact ⟨_, _, _, rfl, upd_same, rfl, q _ _ (same_make np nd) ⟨_, _, rfl, upd_same⟩⟩
theorem sc_Moment_add : FnScope ["self", "other"] ["self", "other"] (defScope s_Moment_add) := ⟨rfl, rfl, rfl, by decide +kernel, rfl, by decide +kernel, by decide +kernel⟩
set_option maxHeartbeats 4000000 in
theorem ok_Moment_add (T : TX K mg) : FnOk P w K mg base CX0 7 (He.fAd K ("Moment", some "__add__")) T.fd_Moment_add ["self", "other"] (sp_Moment_add K) := by
  refine T.F_Moment_add.ok (k := 6) sc_Moment_add (fun vs H Q E h => ?_) (fun cdv A outer s H vs Q E hr h => ⟨_, PSs.nox (by exact (pss_cons (ps_if (pt_not (pt_val (pe_callB call_isi (by rfl) T.f_isinstance (by decide +kernel) (pa_cons (pv 1) (pa_cons (pe_glob (v := .ref _) rfl T.g_Span rfl) pa_nil))))) (pss_one ps_never) pss_nil)
      (pss_one (ps_ret (pe_make T.mk_Moment (ok_Moment_init T) (hr.mono (by decide)) rfl T.g_Moment T.b_Moment_init .nil pass0 (pa_cons (pe_op op_add (pe_fld (pv 0) rfl) (pe_fld (pv 1) rfl)) pa_nil)))))), ?_⟩)
  · obtain ⟨x, y, i, j, rfl, _⟩ := h
    rfl
  · obtain ⟨x, y, i, j, rfl, ⟨a, dx, rfl, ha⟩, ⟨b, dy, rfl, hb⟩, q⟩ := h
    refine ⟨_, rfl, _, _, _, _, _, rfl, .own _, tyx_own hb T.cl_Span T.ty_Span, T.k_Span, true, rfl, iteF ?_⟩
    refine ⟨_, rfl, _, _, _, _, _, rfl, ha, T.cl_Moment, T.n_Moment_at, rfl, _, rfl, _, _, _, _, _, rfl, hb, T.cl_Span, T.n_Span_amount, rfl, _, _, rfl, rfl, fun p dp np nd ne => ?_⟩
    exact ⟨_, _, _, rfl, upd_same, rfl, q _ _ (same_make np nd) ⟨_, _, rfl, upd_same⟩⟩
theorem sc_Moment_radd : FnScope ["self", "other"] ["self", "other"] (defScope s_Moment_radd) := ⟨rfl, rfl, rfl, by decide +kernel, rfl, by decide +kernel, by decide +kernel⟩
set_option maxHeartbeats 4000000 in
theorem ok_Moment_radd (T : TX K mg) : FnOk P w K mg base CX0 7 (He.fAd K ("Moment", some "__radd__")) T.fd_Moment_radd ["self", "other"] (sp_Moment_radd K) := by
  refine T.F_Moment_radd.ok (k := 6) sc_Moment_radd (fun vs H Q E h => ?_) (fun cdv A outer s H vs Q E hr h => ⟨_, PSs.nox (by exact (pss_cons (ps_if (pt_not (pt_val (pe_callB call_isi (by rfl) T.f_isinstance (by decide +kernel) (pa_cons (pv 1) (pa_cons (pe_glob (v := .ref _) rfl T.g_Span rfl) pa_nil))))) (pss_one ps_never) pss_nil)
      (pss_one (ps_ret (pe_make T.mk_Moment (ok_Moment_init T) (hr.mono (by decide)) rfl T.g_Moment T.b_Moment_init .nil pass0 (pa_cons (pe_op op_add (pe_fld (pv 0) rfl) (pe_fld (pv 1) rfl)) pa_nil)))))), ?_⟩)
  · obtain ⟨x, y, i, j, rfl, _⟩ := h
    rfl
  · obtain ⟨x, y, i, j, rfl, ⟨a, dx, rfl, ha⟩, ⟨b, dy, rfl, hb⟩, q⟩ := h
    refine ⟨_, rfl, _, _, _, _, _, rfl, .own _, tyx_own hb T.cl_Span T.ty_Span, T.k_Span, true, rfl, iteF ?_⟩
    refine ⟨_, rfl, _, _, _, _, _, rfl, ha, T.cl_Moment, T.n_Moment_at, rfl, _, rfl, _, _, _, _, _, rfl, hb, T.cl_Span, T.n_Span_amount, rfl, _, _, rfl, rfl, fun p dp np nd ne => ?_⟩
    exact ⟨_, _, _, rfl, upd_same, rfl, q _ _ (same_make np nd) ⟨_, _, rfl, upd_same⟩⟩
theorem sc_Moment_sub : FnScope ["self", "other"] ["self", "other"] (defScope s_Moment_sub) := ⟨rfl, rfl, rfl, by decide +kernel, rfl, by decide +kernel, by decide +kernel⟩
set_option maxHeartbeats 4000000 in
theorem ok_Moment_sub (T : TX K mg) : FnOk P w K mg base CX0 7 (He.fAd K ("Moment", some "__sub__")) T.fd_Moment_sub ["self", "other"] (sp_Moment_sub K) := by
  refine T.F_Moment_sub.ok (k := 6) sc_Moment_sub (fun vs H Q E h => ?_) (fun cdv A outer s H vs Q E hr h => ⟨_, PSs.nox (by exact (pss_cons (ps_if (pt_val (pe_callB call_isi (by rfl) T.f_isinstance (by decide +kernel) (pa_cons (pv 1) (pa_cons (pe_glob (v := .ref _) rfl T.g_Span rfl) pa_nil)))) (pss_one (ps_ret (pe_make T.mk_Moment (ok_Moment_init T) (hr.mono (by decide)) rfl T.g_Moment T.b_Moment_init .nil pass0 (pa_cons (pe_op op_sub (pe_fld (pv 0) rfl) (pe_fld (pv 1) rfl)) pa_nil)))) pss_nil)
      (pss_cons (ps_if (pt_val (pe_callB call_isi (by rfl) T.f_isinstance (by decide +kernel) (pa_cons (pv 1) (pa_cons (pe_glob (v := .ref _) rfl T.g_Moment rfl) pa_nil)))) (pss_one (ps_ret (pe_make T.mk_Span (ok_Span_init T) (hr.mono (by decide)) rfl T.g_Span T.b_Span_init .nil pass0 (pa_cons (pe_op op_sub (pe_fld (pv 0) rfl) (pe_fld (pv 1) rfl)) pa_nil)))) pss_nil)
      (pss_one ps_never)))), ?_⟩)
  · obtain ⟨x, y, i, j, rfl, _⟩ := h
    rfl
  · obtain ⟨x, y, i, j, rfl, ⟨a, dx, rfl, ha⟩, ⟨⟨b, dy, rfl, hb⟩, q⟩ | ⟨⟨b, dy, rfl, hb⟩, q⟩⟩ := h
    · refine ⟨_, rfl, _, _, _, _, _, rfl, .own _, tyx_own hb T.cl_Span T.ty_Span, T.k_Span, true, rfl, iteT ?_⟩
      refine ⟨_, rfl, _, _, _, _, _, rfl, ha, T.cl_Moment, T.n_Moment_at, rfl, _, rfl, _, _, _, _, _, rfl, hb, T.cl_Span, T.n_Span_amount, rfl, _, _, rfl, rfl, fun p dp np nd ne => ?_⟩
      exact ⟨_, _, _, rfl, upd_same, rfl, q _ _ (same_make np nd) ⟨_, _, rfl, upd_same⟩⟩
    · refine ⟨_, rfl, _, _, _, _, _, rfl, .own _, tyx_own hb T.cl_Moment T.ty_Moment, T.k_Moment_Span, false, rfl, iteF ?_⟩
      refine ⟨_, rfl, _, _, _, _, _, rfl, .own _, tyx_own hb T.cl_Moment T.ty_Moment, T.k_Moment, true, rfl, iteT ?_⟩
      refine ⟨_, rfl, _, _, _, _, _, rfl, ha, T.cl_Moment, T.n_Moment_at, rfl, _, rfl, _, _, _, _, _, rfl, hb, T.cl_Moment, T.n_Moment_at, rfl, _, _, rfl, rfl, fun p dp np nd ne => ?_⟩
      exact ⟨_, _, _, rfl, upd_same, rfl, q _ _ (same_make np nd) ⟨_, _, rfl, upd_same⟩⟩
theorem sc_law : FnScope ["_law_script", "_law_at_here", "_law_bag_here", "_law_name", "_law_other", "_law_a", "_law_b", "_law_c", "_law_moment", "_law_span", "_law_later"] ["_law_script"] (defScope s_law) := ⟨rfl, rfl, rfl, by decide +kernel, rfl, by decide +kernel, by decide +kernel⟩
set_option maxHeartbeats 4000000 in
theorem ok_law (T : TX K mg) : FnOk P w K mg base CX0 10 (He.fAd K ("law", none)) T.fd_law ["_law_script"] (sp_law K) := by
  refine T.F_law.ok (k := 9) sc_law (fun vs H Q E h => ?_) (fun cdv A outer s H vs Q E hr h => ⟨_, PSs.nox (by exact (pss_cons (ps_for PassesOwn.never rfl (pi_range1 (by rfl) T.f_range (pa_cons (pe_callB (call_max2 rfl) (by rfl) T.f_max (by decide +kernel) (pa_cons pe_int (pa_cons (pe_callB (call_min2 rfl) (by rfl) T.f_min (by decide +kernel) (pa_cons pe_int (pa_cons (pe_callB call_len (by rfl) T.f_len PySem.boot_len (pa_cons (pv 0) pa_nil)) pa_nil))) pa_nil))) pa_nil)) (pg_name (i := 1) sc_law.nd rfl (Or.inl rfl))
      (pss_cons (ps_set (i := 2) sc_law.nd rfl (Or.inl rfl) (pe_call (ok_l_bag T) (hr.mono (by decide)) rfl T.g_l_bag T.F_l_bag.kp T.b_l_bag .nil pass0 (pa_cons (pv 0) (pa_cons (pv 1) pa_nil))))
      (pss_cons (ps_par3 (i := 5) (j := 6) (l := 7) (by rfl) sc_law.nd rfl rfl rfl (by decide) (by decide) (by decide) rfl rfl rfl (pa_cons (pe_call (ok_l_number T) (hr.mono (by decide)) rfl T.g_l_number T.F_l_number.kp T.b_l_number .nil pass0 (pa_cons (pv 2) pa_nil)) (pa_cons (pe_call (ok_l_number T) (hr.mono (by decide)) rfl T.g_l_number T.F_l_number.kp T.b_l_number .nil pass0 (pa_cons (pv 2) pa_nil)) (pa_cons (pe_call (ok_l_number T) (hr.mono (by decide)) rfl T.g_l_number T.F_l_number.kp T.b_l_number .nil pass0 (pa_cons (pv 2) pa_nil)) pa_nil))) (by rfl))
      (pss_cons (ps_par3 (i := 8) (j := 9) (l := 10) (by rfl) sc_law.nd rfl rfl rfl (by decide) (by decide) (by decide) rfl rfl rfl (pa_cons (pe_make T.mk_Moment (ok_Moment_init T) (hr.mono (by decide)) rfl T.g_Moment T.b_Moment_init .nil pass0 (pa_cons (pv 5) pa_nil)) (pa_cons (pe_make T.mk_Span (ok_Span_init T) (hr.mono (by decide)) rfl T.g_Span T.b_Span_init .nil pass0 (pa_cons (pv 6) pa_nil)) (pa_cons (pe_make T.mk_Moment (ok_Moment_init T) (hr.mono (by decide)) rfl T.g_Moment T.b_Moment_init .nil pass0 (pa_cons (pv 7) pa_nil)) pa_nil))) (by rfl))
      (pss_cons (ps_if (pt_cut (PW.pt (pw_or (pt_not (pt_val (pe_call (ok_l_at T) (hr.mono (by decide)) rfl T.g_l_at T.F_l_at.kp T.b_l_at .nil pass0 (pa_cons (pe_op (op_own2 T.m_Moment_add T.mro_Moment T.n2_add_Moment_Span (ok_Moment_add T) (hr.mono (by decide)) T.b_Moment_add pass0) (pv 8) (pv 9)) (pa_cons (pe_op op_add (pv 5) (pv 6)) pa_nil))))) (pw_or1 (pt_not (pt_val (pe_call (ok_l_at T) (hr.mono (by decide)) rfl T.g_l_at T.F_l_at.kp T.b_l_at .nil pass0 (pa_cons (pe_op (op_own2R T.m_Span_add T.mro_Span T.n2_add_Span_Moment T.m_Moment_radd T.m_Moment_add (ni_Span_add T) (hr.mono (by decide)) T.b_Span_add (ok_Moment_radd T) (hr.mono (by decide)) T.b_Moment_radd pass0) (pv 9) (pv 8)) (pa_cons (pe_op op_add (pv 5) (pv 6)) pa_nil))))))))) (pss_one (ps_ret pe_bl)) pss_nil)
      (pss_cons (ps_if (pt_cut (PW.pt (pw_or (pt_not (pt_val (pe_call (ok_l_at T) (hr.mono (by decide)) rfl T.g_l_at T.F_l_at.kp T.b_l_at .nil pass0 (pa_cons (pe_op (op_own2 T.m_Moment_sub T.mro_Moment T.n2_sub_Moment_Span (ok_Moment_sub T) (hr.mono (by decide)) T.b_Moment_sub pass0) (pv 8) (pv 9)) (pa_cons (pe_op op_sub (pv 5) (pv 6)) pa_nil))))) (pw_or1 (pt_not (pt_val (pe_call (ok_l_is T) (hr.mono (by decide)) rfl T.g_l_is T.F_l_is.kp T.b_l_is .nil pass0 (pa_cons (pe_op (op_own T.m_Moment_sub (PySem.W.mro2_first T.mro_Moment) (ok_Moment_sub T) (hr.mono (by decide)) T.b_Moment_sub pass0) (pv 10) (pv 8)) (pa_cons (pe_op op_sub (pv 7) (pv 5)) pa_nil))))))))) (pss_one (ps_ret pe_bl)) pss_nil)
      (pss_cons (ps_if (pt_cut (PW.pt (pw_or (pt_not (pt_val (pe_call (ok_l_at T) (hr.mono (by decide)) rfl T.g_l_at T.F_l_at.kp T.b_l_at .nil pass0 (pa_cons (pe_op (op_own2 T.m_Moment_add T.mro_Moment T.n2_add_Moment_Span (ok_Moment_add T) (hr.mono (by decide)) T.b_Moment_add pass0) (pv 8) (pe_op (op_own T.m_Moment_sub (PySem.W.mro2_first T.mro_Moment) (ok_Moment_sub T) (hr.mono (by decide)) T.b_Moment_sub pass0) (pv 10) (pv 8))) (pa_cons (pv 7) pa_nil))))) (pw_or1 (pt_not (pt_val (pe_call (ok_l_at T) (hr.mono (by decide)) rfl T.g_l_at T.F_l_at.kp T.b_l_at .nil pass0 (pa_cons (pe_op (op_own2 T.m_Moment_sub T.mro_Moment T.n2_sub_Moment_Span (ok_Moment_sub T) (hr.mono (by decide)) T.b_Moment_sub pass0) (pe_op (op_own2 T.m_Moment_add T.mro_Moment T.n2_add_Moment_Span (ok_Moment_add T) (hr.mono (by decide)) T.b_Moment_add pass0) (pv 8) (pv 9)) (pv 9)) (pa_cons (pv 5) pa_nil))))))))) (pss_one (ps_ret pe_bl)) pss_nil)
      (pss_cons (ps_par (i := 3) (j := 4) (by rfl) sc_law.nd rfl rfl (by decide) rfl rfl (pa_cons (pv 8) (pa_cons (pv 8) pa_nil)) (by rfl))
      (pss_cons (ps_aug (i := 3) sc_law.nd rfl (.inl rfl) (pv 9) (iop_own2 T.m_Moment_add T.mro_Moment T.n2_add_Moment_Span T.iadd_Moment T.ioadd (ok_Moment_add T) (hr.mono (by decide)) T.b_Moment_add pass0))
      (pss_cons (ps_if (pt_cut (PW.pt (pw_or (pt_not (pt_val (pe_call (ok_l_at T) (hr.mono (by decide)) rfl T.g_l_at T.F_l_at.kp T.b_l_at .nil pass0 (pa_cons (pv 3) (pa_cons (pe_op op_add (pv 5) (pv 6)) pa_nil))))) (pw_or (pt_not (pt_val (pe_call (ok_l_at T) (hr.mono (by decide)) rfl T.g_l_at T.F_l_at.kp T.b_l_at .nil pass0 (pa_cons (pv 4) (pa_cons (pv 5) pa_nil))))) (pw_or1 (pt_not (pt_val (pe_call (ok_l_at T) (hr.mono (by decide)) rfl T.g_l_at T.F_l_at.kp T.b_l_at .nil pass0 (pa_cons (pv 8) (pa_cons (pv 5) pa_nil)))))))))) (pss_one (ps_ret pe_bl)) pss_nil)
      (pss_cons (ps_set (i := 4) sc_law.nd rfl (Or.inl rfl) (pv 3))
      (pss_cons (ps_aug (i := 3) sc_law.nd rfl (.inl rfl) (pv 9) (iop_own2 T.m_Moment_sub T.mro_Moment T.n2_sub_Moment_Span T.isub_Moment T.iosub (ok_Moment_sub T) (hr.mono (by decide)) T.b_Moment_sub pass0))
      (pss_cons (ps_aug (i := 3) sc_law.nd rfl (.inl rfl) (pe_make T.mk_Span (ok_Span_init T) (hr.mono (by decide)) rfl T.g_Span T.b_Span_init .nil pass0 (pa_cons (pv 7) pa_nil)) (iop_own2 T.m_Moment_add T.mro_Moment T.n2_add_Moment_Span T.iadd_Moment T.ioadd (ok_Moment_add T) (hr.mono (by decide)) T.b_Moment_add pass0))
      (pss_cons (ps_if (pt_not (pt_val (pe_call (ok_l_at T) (hr.mono (by decide)) rfl T.g_l_at T.F_l_at.kp T.b_l_at .nil pass0 (pa_cons (pv 4) (pa_cons (pe_op op_add (pv 5) (pv 6)) pa_nil))))) (pss_one (ps_ret pe_bl)) pss_nil)
      (pss_one (ps_if (pt_cut (PW.pt (pw_or (pt_not (pt_val (pe_call (ok_l_at T) (hr.mono (by decide)) rfl T.g_l_at T.F_l_at.kp T.b_l_at .nil pass0 (pa_cons (pv 3) (pa_cons (pe_op op_add (pv 5) (pv 7)) pa_nil))))) (pw_or (pt_not (pt_val (pe_call (ok_l_is T) (hr.mono (by decide)) rfl T.g_l_is T.F_l_is.kp T.b_l_is .nil pass0 (pa_cons (pv 9) (pa_cons (pv 6) pa_nil))))) (pw_or1 (pt_not (pt_val (pe_call (ok_l_at T) (hr.mono (by decide)) rfl T.g_l_at T.F_l_at.kp T.b_l_at .nil pass0 (pa_cons (pv 10) (pa_cons (pv 7) pa_nil)))))))))) (pss_one (ps_ret pe_bl)) pss_nil))))))))))))))))
      (pss_one (ps_ret pe_bl)))), ?_⟩)
  · obtain ⟨a, ns, rfl, _⟩ := h
    rfl
  · obtain ⟨a, ns, rfl, hS, hlen, q⟩ := h
    refine ⟨_, rfl, _, _, rfl, Or.inl ⟨_, hS, rfl⟩, _, _, rfl, _, _, rfl, _, rfl, ?_, ?_, for_range (lo := 0) (fun i σ H' => ∃ v1 v2 v3 v4 v5 v6 v7 v8 v9 v10 : Option V, σ = [some (.ref a), v1, v2, v3, v4, v5, v6, v7, v8, v9, v10] ∧ Same H H')
      ⟨none, none, none, none, none, none, none, none, none, none, rfl, Same.refl _⟩ ?_ ?_⟩
    · split <;> split <;> omega
    · split <;> split <;> omega
    · rintro i σ H0 hi ⟨v1, v2, v3, v4, v5, v6, v7, v8, v9, v10, rfl, s0⟩
      have hi5 : i < 5 := by
        split at hi <;> split at hi <;> omega
      refine ⟨_, rfl, _, rfl, a, ns, _, rfl, s0.seq hS, hlen, by omega, by omega, fun l H1 nl s1 B1 => ?_⟩
      have t1 := s0.trans s1
      have nl0 := s0.free nl
      refine ⟨_, rfl, l, rfl, B1, fun i1 H2 b1 c2 B2 => ?_⟩
      refine ⟨_, rfl, l, rfl, B2, fun i2 H3 b2 c3 B3 => ?_⟩
      refine ⟨_, rfl, l, rfl, B3, fun i3 H4 b3 c4 B4 => ⟨_, _, _, rfl, ?_⟩⟩
      have t4 : Same H H4 := t1.but_ nl0 ((c2.trans c3).trans c4)
      refine ⟨_, rfl, fun x dx nx nd _ => ⟨_, _, _, rfl, upd_same, rfl, ?_⟩⟩
      obtain ⟨H5, e5, u5, hm⟩ := made_moment (K := K) i1 nx nd
      rw [e5]
      refine ⟨_, rfl, fun y dy ny ndy _ => ⟨_, _, _, rfl, upd_same, rfl, ?_⟩⟩
      obtain ⟨H6, e6, u6, hs⟩ := made_span (K := K) i2 ny ndy
      rw [e6]
      refine ⟨_, rfl, fun z dz nz ndz _ => ⟨_, _, _, rfl, upd_same, rfl, _, _, _, rfl, ?_⟩⟩
      obtain ⟨H7, e7, u7, hl⟩ := made_moment (K := K) i3 nz ndz
      rw [e7]
      replace hm := hm.same (u6.trans u7)
      replace hs := hs.same u7
      have t7 : Same H H7 := ((t4.trans u5).trans u6).trans u7
      clear e5 e6 e7 u5 u6 u7 t4
      have n12 : (i1 + i2).natAbs < 2 ^ 200 := natAbs_add_lt b1 b2
      have n1m2 : (i1 - i2).natAbs < 2 ^ 200 := natAbs_sub_lt b1 b2
      have n31 : (i3 - i1).natAbs < 2 ^ 200 := natAbs_sub_lt b3 b1
      have n1 : i1.natAbs < 2 ^ 200 := nat_pow_mono b1 (by decide)
      have n2' : i2.natAbs < 2 ^ 200 := nat_pow_mono b2 (by decide)
      have n3 : i3.natAbs < 2 ^ 200 := nat_pow_mono b3 (by decide)
      have n13 : (i1 + i3).natAbs < 2 ^ 200 := natAbs_add_lt b1 b3
      refine ⟨fun b H' => b = false ∧ Same H7 H', ?_, ?_⟩
      · obtain ⟨_, hx⟩ := hm.ins
        obtain ⟨_, hy⟩ := hs.ins
        refine ⟨_, rfl, _, rfl, _, _, _, _, _, _, rfl, hx, rfl, hy, _, _, i1, i2, rfl, hm, hs, fun v H8 s8 hv => ?_⟩
        refine ⟨_, rfl, _, rfl, _, _, rfl, rfl, _, _, _, rfl, hv, n12, rfl, true, rfl, iteF ?_⟩
        refine ⟨_, rfl, _, rfl, _, _, _, _, _, _, rfl, s8 _ _ hy, rfl, s8 _ _ hx, ⟨_, _, _, _, rfl, hs.same s8, hm.same s8⟩, _, _, i1, i2, rfl, hm.same s8, hs.same s8, fun v H9 s9 hv => ?_⟩
        exact ⟨_, rfl, _, rfl, _, _, rfl, rfl, _, _, _, rfl, hv, n12, rfl, true, rfl, rfl, s8.trans s9⟩
      · rintro _ H8 ⟨rfl, s8⟩
        replace hm := hm.same s8
        replace hs := hs.same s8
        replace hl := hl.same s8
        replace t7 := t7.trans s8
        clear s8
        refine iteF ⟨fun b H' => b = false ∧ Same H8 H', ?_, ?_⟩
        · obtain ⟨_, hx⟩ := hm.ins
          obtain ⟨_, hy⟩ := hs.ins
          obtain ⟨_, hz⟩ := hl.ins
          refine ⟨_, rfl, _, rfl, _, _, _, _, _, _, rfl, hx, rfl, hy, _, _, i1, i2, rfl, hm, .inl ⟨hs, fun v H9 s9 hv => ?_⟩⟩
          refine ⟨_, rfl, _, rfl, _, _, rfl, rfl, _, _, _, rfl, hv, n1m2, rfl, true, rfl, iteF ?_⟩
          refine ⟨_, rfl, _, rfl, _, _, _, _, _, _, rfl, s9 _ _ hz, rfl, s9 _ _ hx, _, _, i3, i1, rfl, hl.same s9, .inr ⟨hm.same s9, fun v H10 s10 hv => ?_⟩⟩
          exact ⟨_, rfl, _, rfl, _, _, rfl, rfl, _, _, _, rfl, hv, n31, rfl, true, rfl, rfl, s9.trans s10⟩
        · rintro _ H9 ⟨rfl, s9⟩
          replace hm := hm.same s9
          replace hs := hs.same s9
          replace hl := hl.same s9
          replace t7 := t7.trans s9
          clear s9
          refine iteF ⟨fun b H' => b = false ∧ Same H9 H', ?_, ?_⟩
          · obtain ⟨_, hx⟩ := hm.ins
            obtain ⟨_, hy⟩ := hs.ins
            obtain ⟨_, hz⟩ := hl.ins
            refine ⟨_, rfl, _, rfl, _, rfl, _, _, _, _, _, _, rfl, hz, rfl, hx, _, _, i3, i1, rfl, hl, .inr ⟨hm, fun v H10 s10 hv => ?_⟩⟩
            obtain ⟨b, db, rfl, hb⟩ := id hv
            refine ⟨_, _, _, _, _, _, rfl, s10 _ _ hx, rfl, hb, _, _, i1, _, rfl, hm.same s10, hv, fun w H11 s11 hw => ?_⟩
            refine ⟨_, rfl, _, _, _, rfl, hw, (show (i1 + (i3 - i1)).natAbs < _ by rw [show i1 + (i3 - i1) = i3 by omega]; exact n3), (show i1 + (i3 - i1) = i3 by omega), true, rfl, iteF ?_⟩
            have s := s10.trans s11
            refine ⟨_, rfl, _, rfl, _, _, _, _, _, _, rfl, s _ _ hx, rfl, s _ _ hy, _, _, i1, i2, rfl, hm.same s, hs.same s, fun w2 H12 s12 hw2 => ?_⟩
            obtain ⟨c, dc, rfl, hc⟩ := id hw2
            refine ⟨_, rfl, _, _, _, _, _, _, rfl, hc, rfl, s12 _ _ (s _ _ hy), _, _, _, i2, rfl, hw2, .inl ⟨(hs.same s).same s12, fun w3 H13 s13 hw3 => ?_⟩⟩
            exact ⟨_, rfl, _, _, _, rfl, hw3, (show (i1 + i2 - i2).natAbs < _ by rw [show i1 + i2 - i2 = i1 by omega]; exact n1), (show i1 + i2 - i2 = i1 by omega), true, rfl, rfl, (s.trans s12).trans s13⟩
          · rintro _ H10 ⟨rfl, s10⟩
            replace hm := hm.same s10
            replace hs := hs.same s10
            replace hl := hl.same s10
            replace t7 := t7.trans s10
            clear s10
            obtain ⟨_, hx⟩ := hm.ins
            obtain ⟨_, hy⟩ := hs.ins
            refine iteF ⟨_, rfl, _, rfl, _, _, rfl, _, rfl, _, rfl, _, _, _, _, _, _, rfl, hx, rfl, hy, _, _, i1, i2, rfl, hm, hs, fun nm H11 s11 hnm => ?_⟩
            replace hm := hm.same s11
            replace hs := hs.same s11
            replace hl := hl.same s11
            replace t7 := t7.trans s11
            clear s11 hx hy
            refine ⟨fun b H' => b = false ∧ H11 = H', ?_, ?_⟩
            · refine ⟨_, rfl, _, rfl, _, rfl, _, _, rfl, rfl, _, _, _, rfl, hnm, n12, rfl, true, rfl, iteF ?_⟩
              refine ⟨_, rfl, _, rfl, _, _, _, rfl, hm, n1, rfl, true, rfl, iteF ?_⟩
              exact ⟨_, rfl, _, rfl, _, _, _, rfl, hm, n1, rfl, true, rfl, rfl, rfl⟩
            · rintro _ _ ⟨rfl, rfl⟩
              obtain ⟨b, db, rfl, hb⟩ := id hnm
              obtain ⟨_, hy⟩ := hs.ins
              refine iteF ⟨_, rfl, _, rfl, _, rfl, _, _, _, _, _, _, rfl, hb, rfl, hy, _, _, _, i2, rfl, hnm, .inl ⟨hs, fun n2 H12 s12 hn2 => ?_⟩⟩
              replace hm := hm.same s12
              replace hs := hs.same s12
              replace hl := hl.same s12
              replace hnm := hnm.same s12
              replace t7 := t7.trans s12
              clear s12 hb hy
              obtain ⟨c, dc, rfl, hc⟩ := id hn2
              refine ⟨_, rfl, _, rfl, fun q2 dq nq ndq _ => ⟨_, _, _, rfl, upd_same, rfl, ?_⟩⟩
              obtain ⟨H13, e13, u13, hq2⟩ := made_span (K := K) i3 nq ndq
              rw [e13]
              obtain ⟨_, hq2i⟩ := hq2.ins
              refine ⟨_, _, _, _, _, _, rfl, u13 _ _ hc, rfl, hq2i, _, _, _, i3, rfl, hn2.same u13, hq2, fun n3' H14 s14 hn3 => ?_⟩
              replace hm := (hm.same u13).same s14
              replace hs := (hs.same u13).same s14
              replace hl := (hl.same u13).same s14
              replace hnm := (hnm.same u13).same s14
              replace t7 := (t7.trans u13).trans s14
              refine ⟨_, rfl, _, rfl, _, rfl, _, _, rfl, rfl, _, _, _, rfl, hnm, n12, rfl, true, rfl, iteF ?_⟩
              refine ⟨fun b H' => b = false ∧ H14 = H', ?_, ?_⟩
              · refine ⟨_, rfl, _, rfl, _, rfl, _, _, rfl, rfl, _, _, _, rfl, hn3, ?_, ?_, true, rfl, iteF ?_⟩
                · show (i1 + i2 - i2 + i3).natAbs < _
                  rw [show i1 + i2 - i2 + i3 = i1 + i3 by omega]
                  exact n13
                · show i1 + i2 - i2 + i3 = i1 + i3
                  omega
                · refine ⟨_, rfl, _, rfl, _, _, _, rfl, hs, n2', rfl, true, rfl, iteF ?_⟩
                  exact ⟨_, rfl, _, rfl, _, _, _, rfl, hl, n3, rfl, true, rfl, rfl, rfl⟩
              · rintro _ _ ⟨rfl, rfl⟩
                exact iteF ⟨_, _, _, _, _, _, _, _, _, _, rfl, t7⟩
    · rintro σ H0 ⟨v1, v2, v3, v4, v5, v6, v7, v8, v9, v10, rfl, s0⟩
      exact q _
end
end T06

namespace T06
open PySem PySem.Spec PyProof.Rows L2
def loose0 : List Str := ["_wall", "BadNumber", "BadGrain", "is_integer", "MOST_LENGTHS", "GREATEST_LENGTH", "shortest_row", "first_in", "cell_in", "Grain", "Span", "Moment", "_law_bag", "_law_take", "_law_number", "_law_at", "_law_is"]
def loose : List Str := loose0
abbrev R : PySem.W.OpenRow := PySem.W.OpenLaw.row PySem.Challenge.rw_rangeends_k06_moments_and_spans
abbrev hk : PySem.W.Hook := He.hookX 6 fa fn [] [] ex
def ob (s : PySem.W.SharedT) : He.AlX := He.obsX 6 fa fn [] [] ex (HandSHeadRun.getT s)
theorem ob_eq (s : PySem.W.SharedT) : ob s = hk.obs s.abs := He.obsX_eq (HandSHeadRun.getT_eq s)
set_option maxHeartbeats 0 in
theorem run (w : World) : HandSHeadRun.RunEq R (PySem.W.view R.prog [22]) hk ob 4000 loose w := by
  intro os
  kernel_rfl
end T06
open PySem PySem.W PySem.Calls PyProof.Rows
set_option maxRecDepth 100000 in
set_option maxHeartbeats 0 in
theorem PySem.Challenge.cw_rangeends_k06_moments_and_spans_holds : PySem.Challenge.rw_rangeends_k06_moments_and_spans.Holds := by
  w_on; o_law
  refine HandSHeadRun.head_any (r := OpenLaw.row PySem.Challenge.rw_rangeends_k06_moments_and_spans) (q := view (OpenLaw.row PySem.Challenge.rw_rangeends_k06_moments_and_spans).prog [22]) (H := T06.hk) (ob := T06.ob) (M := 4000) (loose := T06.loose) (d := HandSHeadRun.topDef (OpenLaw.row PySem.Challenge.rw_rangeends_k06_moments_and_spans).prog 22) (kwd := []) T06.ob_eq
    (by kernel_rfl) (fun s => by kernel_rfl) T06.run (by kernel_rfl) (by kernel_rfl) (by kernel_rfl) (by rfl) (by first | assumption | decide +kernel) (by decide +kernel) ⟨rfl, rfl, rfl, rfl, rfl, by decide +kernel⟩ ?hw ?hc
  case hw => w_witness2
  case hc =>
    refine L2.walk_ofE (l := PySem.Challenge.rw_rangeends_k06_moments_and_spans) (n := 63) (k := 10) (x := "_law_script") (CX := L2.CX0) rfl (by decide) (by kernel_rfl) ⟨rfl, by decide, by decide⟩ ?F (fun _ _ _ _ z => z)
    intro w mg fa h Y G hmg0
    obtain ⟨K, KX, c⟩ := Y
    have hmg : mg ("law" : PySem.Str) = some (.ref fa) := by
      have e : (HandSHeadRun.topDef (OpenLaw.row PySem.Challenge.rw_rangeends_k06_moments_and_spans).prog 22).name = ("law" : PySem.Str) := by kernel_rfl
      rw [← e]
      exact hmg0
    obtain ⟨T⟩ := T06.tx_mk KX G c
    have e := hmg.symm.trans T.g_law
    cases e
    have b := L2.FunD.bindsA (ps := ["_law_script"]) T.F_law fun _ _ _ _ _ _ us hl => match us, hl with | [_], _ => rfl
    exact ⟨K, T.fd_law, T06.sp_law K, KX, fun s v => b s [v] rfl, fun H a ns hl _ hS => ⟨a, ns, rfl, hS, hl, fun _ => rfl⟩, fun base _ _ => T06.ok_law (P := (PySem.Challenge.rw_rangeends_k06_moments_and_spans).prog) (w := w) (base := base) T⟩
